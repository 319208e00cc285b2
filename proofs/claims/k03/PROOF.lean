import PyProof.Rows.All
import Wide.All
import OpenK.AllK
import Wide.FinOn
import KE.KStateDown
import KE.SortKeyHeap
import KE.GoesMore
import KE.GoesNew
import KE.KDictZip
import Lean
import HandS.ForMost
import HandS.More
import HandS.Walk
import HandS.Flow
import HandS.Style
import HandS.Conv
import HandS.Defaults
import HandS.IsInst
import HandS.DictComp
import HandS.SortKw
import HandS.Slots
import HandS.SlotsOwn
import HandS.ClsMeth
import HandS.MakeKwOnly
import HandS.Zip
import HandS.TupAny
import HandS.ListItems
import HandS.SetFor
import HandS.SetBool
import HandS.Strs
import HandS.CallLocal
import HandS.WordsExc
import HandS.WordsDict
import HandS.Small
import HandS.Head0
import HandS.Head1
import HandS.Head2
import HandS.HeadEnd
import HandS.HeadHook1
import HandS.HeadHook2
import HandS.HeadNt
import HandS.GenList
import HandS.TupLen
import KE.KDictPairs
import HandS.DictTup
import HandS.Star
import HandS.TupSets
import HandS.Flt
import HandS.Property
import HandS.TupMul
import KE.DataMinMax
import KE.KDictItemsList
import HandS.DictEq
import HandS.OwnEq
import HandS.FStr
import HandS.TryOnly
import PySem.Challenge.RW_mendnumber_k03_whole_closed_prices
set_option Elab.async false
set_option linter.all false
set_option maxRecDepth 100000
set_option maxHeartbeats 4000000
/-! defs by their names; promises that hold while nothing is being shown (repr) -/
namespace MN
open PySem PySem.Spec PyProof.Rows L2
/-- the def x of the text st, under its name -/
def At (K : PySem.W.Frag) (mg : Str → Option Value) (x : Str) (st : Stmt) : Prop := ∃ f fd, FunD K x x (defArgs st) (defBody st) (defScope st) [] [] f fd ∧ mg x = some (.ref f)
abbrev BindEq (x : Str) (st : Stmt) (ps : List Str) : Prop := ∀ (kV doc pm : Value) (an : Option Addr) (cdv ct : Value) (us : List Value), us.length = ps.length → bindArgs (PySem.W.fnOf x x (defArgs st) (defBody st) (defScope st) .none kV doc pm an cdv ct) ⟨us, []⟩ = pure (ps.zip us)
/-- a def that may be called by its name -/
structure Cal (P : Program) (w : World) (K : PySem.W.Frag) (mg : Str → Option Value) (base : Heap) (k : Nat) (x : Str) (sp : Sp) : Prop where
  ex : ∃ (f : Addr) (fd : FuncData) (ps : List Str), FnOk P w K mg base CX0 k f fd ps sp ∧ mg x = some (.ref f) ∧ PySem.W.keepIn K (.ref f) = true ∧ Binds K fd ps []
/-- FnOk for calls under which nothing is being shown -/
structure FnG (P : Program) (w : World) (K : PySem.W.Frag) (mg : Str → Option Value) (base : Heap) (k : Nat) (f : Addr) (fd : FuncData) (ps : List Str) (sp : Sp) : Prop where
  len : ∀ vs H Q E, sp vs H Q E → vs.length = ps.length
  run : ∀ (A : Around) (outer : List Env) (s : Shared) (H : Hp) (args : Args) (us : List Value) (vs : List V) (Q : VK) (E : XK), A.guards = some [] → Room k A → Env0 P w K mg base A outer s H →
    BindsTo s fd args (ps.zip us) → Vals vs us → sp vs H Q E → codeAny (model P w) A (.call (.ref f) args) (CR CX0 outer P w H s Q E) s
structure CalG (P : Program) (w : World) (K : PySem.W.Frag) (mg : Str → Option Value) (base : Heap) (k : Nat) (x : Str) (sp : Sp) : Prop where
  ex : ∃ (f : Addr) (fd : FuncData) (ps : List Str), FnG P w K mg base k f fd ps sp ∧ mg x = some (.ref f) ∧ PySem.W.keepIn K (.ref f) = true ∧ Binds K fd ps []
section
variable {X : Cx} {k j : Nat} {x : Str} {sp : Sp} {p pos : Pos} {e : Expr} {es : List Expr} {t : TA}
theorem pe_c (c : Cal X.prog X.w X.K X.mg X.base k x sp) (hr : Room j X.A) (hk : k ≤ j) (hg : Gl X x) (ha : PA X (e :: es) t)
    (hdb : (x == ("__debug__" : Str)) = false := by decide) (he : starEach (e :: es) X.env = (false, eval e X.env) :: starEach es X.env := by rfl)
    (hpl : (backTo pos (starEach es X.env)).any (·.1) = false := by rfl) : PE X (.Call (.Name x p) (e :: es) [] pos) (tCall sp [] E0 t) := by
  obtain ⟨f, fd, ps, F, hm, kp, b⟩ := c.ex
  exact pe_call F (hr.mono hk) hg hm kp b .nil pass0 ha hdb he hpl
theorem run_g {f : Addr} {fd : FuncData} {ps : List Str} {pins : List (Addr × Obj)} {σ : L2.St} {H : Hp} {s : Shared} {Q : VK} {us : List Value} {vs : List V} (F : FnG X.prog X.w X.K X.mg X.base k f fd ps sp) (gd : X.A.guards = some []) (hr : Room k X.A)
    (hb : Binds X.K fd ps []) (I : Inv X pins σ H s) (r : Vals vs us) (h : sp vs H Q E0) : wpAny (model X.prog X.w) X.A (call (.ref f) us) (EP X pins σ Q) X.xe s := by
  have hl : us.length = ps.length := r.length.symm.trans (F.len _ _ _ _ h)
  have hb' := hb s us I.kIn (by rw [List.append_nil]; exact hl)
  rw [List.append_nil] at hb'
  refine wpAny_call (codeAny_mono (F.run X.A X.stack s H ⟨us, []⟩ us vs Q E0 gd hr I.env0 hb' r h) fun r s' hq => ?_)
  match r, hq with
  | .ok (.ret u), hq => exact I.after hq
theorem pe_cG (c : CalG X.prog X.w X.K X.mg X.base k x sp) (gd : X.A.guards = some []) (hr : Room j X.A) (hk : k ≤ j) (hg : Gl X x) (ha : PA X (e :: es) t)
    (hdb : (x == ("__debug__" : Str)) = false := by decide) (he : starEach (e :: es) X.env = (false, eval e X.env) :: starEach es X.env := by rfl)
    (hpl : (backTo pos (starEach es X.env)).any (·.1) = false := by rfl) : PE X (.Call (.Name x p) (e :: es) [] pos) (tCall sp [] E0 t) := by
  obtain ⟨f, fd, ps, F, hm, kp, b⟩ := c.ex
  refine ⟨fun pins s σ H Q I h => ?_⟩
  refine wpAny_Call_Name_kw (ld_glob I hg hm ?_ hdb)
  refine PySem.W.callWith_K (h₀ := X.base) I.ok.mod.kin kp (thn (ha.run pos pins s σ H _ I h) fun us s1 ⟨vs, H1, I1, r, q⟩ => ⟨I1.kIn, ?_⟩) he hpl
  exact run_g F gd (hr.mono hk) b I1 r (List.append_nil vs ▸ (show sp (vs ++ []) H1 Q E0 from q))
/-- a constant of the module -/
theorem pe_gl {v : V} (hg : Gl X x) (h : ∃ u, X.mg x = some u ∧ RelV v u) (hd : (x == ("__debug__" : Str)) = false := by decide) : PE X (.Name x pos) (tC v) := by
  obtain ⟨u, hm, r⟩ := h
  exact pe_glob hg hm r hd
end
section
variable {P : Program} {w : World} {K : PySem.W.Frag} {mg : Str → Option Value} {base : Heap}
theorem Cal.g {k : Nat} {x : Str} {sp : Sp} (c : Cal P w K mg base k x sp) : CalG P w K mg base k x sp := by
  obtain ⟨f, fd, ps, F, hm, kp, b⟩ := c.ex
  exact ⟨f, fd, ps, ⟨F.len, fun A outer s H args us vs Q E _ => F.run A outer s H args us vs Q E⟩, hm, kp, b⟩
theorem cal_of {x : Str} {st : Stmt} {N ps : List Str} {k : Nat} {sp : Sp} (A : At K mg x st) (S : FnScope N ps (defScope st)) (hb : BindEq x st ps)
    (len : ∀ vs H Q E, sp vs H Q E → vs.length = ps.length)
    (hbody : ∀ (f : Addr) (cdv : Value) (A : Around) (outer : List Env) (s : Shared) (H : Hp) (vs : List V) (Q : VK) (E : XK), Room k (A.deeper (envOfC x (defScope st) s.heap.objs.size f cdv)) → sp vs H Q E →
      ∃ t, PSs (cxOf CX0 P w K mg base N x (defScope st) f cdv A outer s H E).nox (defBody st) t ∧ t { nx := fun _ H' => Q .non H', rt := Q } (start N vs) H) : Cal P w K mg base (k + 1) x sp := by
  obtain ⟨f, fd, F, hm⟩ := A
  refine ⟨f, fd, ps, F.ok S len fun cdv A outer s H vs Q E hr h => ?_, hm, F.kp, F.bindsN hb⟩
  obtain ⟨t, h1, h2⟩ := hbody f cdv A outer s H vs Q E hr h
  exact ⟨t, h1.nox, h2⟩
theorem fnG_of {x : Str} {st : Stmt} {N ps : List Str} {k : Nat} {sp : Sp} {f : Addr} {fd : FuncData} (F : FunD K x x (defArgs st) (defBody st) (defScope st) [] [] f fd) (S : FnScope N ps (defScope st))
    (len : ∀ vs H Q E, sp vs H Q E → vs.length = ps.length)
    (hbody : ∀ (cdv : Value) (A : Around) (outer : List Env) (s : Shared) (H : Hp) (vs : List V) (Q : VK) (E : XK), (A.deeper (envOfC x (defScope st) s.heap.objs.size f cdv)).guards = some [] → Room k (A.deeper (envOfC x (defScope st) s.heap.objs.size f cdv)) → sp vs H Q E →
      ∃ t, PSs (cxOf CX0 P w K mg base N x (defScope st) f cdv A outer s H E).nox (defBody st) t ∧ t { nx := fun _ H' => Q .non H', rt := Q } (start N vs) H) : FnG P w K mg base (k + 1) f fd ps sp := by
  refine ⟨len, fun A outer s H args us vs Q E gd hr e0 hb r hsp => ?_⟩
  obtain ⟨oc, od, dV, kV, doc, pm, an, cdv, ct, osl, rfl, lk, hcd, -, -⟩ := F.ex
  have kin : ∀ b o, base.get? b = some o → s.heap.get? b = some o := fun b o e => (e0.bs b o e).1
  have KX : K.In s.heap := e0.mod.kin.keeps kin
  refine codeAny_call_function hr.depth (KX _ _ lk) rfl S.co S.gen rfl (PySem.W.codeRec_of KX hcd) (hb _ _ _ _ ?_)
  refine wpAny_newFunctionEnv_cells S.kind (fun y hy => (S.par y.1 (List.of_mem_zip hy).1).imp id fun q => ⟨q, PySem.W.cellsFrom_some _ _ _ (.inl q)⟩) fun env he s1 ic => ?_
  cases he
  refine ⟨(e0.mod.nolimit.keeps kin).keeps ic.toInCall.keep, codeAny_func ?_⟩
  obtain ⟨t, ht, hq⟩ := hbody cdv A outer s H vs Q E gd (hr.deeper _) hsp
  have I : Inv (cxOf CX0 P w K mg base N x (defScope st) f cdv A outer s H E) [] (start N vs) H s1 := inv_start S hr.hd e0 (len _ _ _ _ hsp) r ic
  refine wpAny_mono (ht.nox.run [] s1 (start N vs) H _ I hq) (fun fl s' hs => ?_) fun _ _ hs => hs
  match fl, hs with
  | .ret u, ⟨v, σ', H', J, rv, q⟩ => exact ⟨v, H', J.os, J.bare, J.base, J.hok, rv, q⟩
  | .next, ⟨σ', H', J, q⟩ => exact ⟨V.non, H', J.os, J.bare, J.base, J.hok, rfl, q⟩
  | .brk, ⟨_, _, _, q⟩ => exact q.elim
  | .cont, ⟨_, _, _, q⟩ => exact q.elim
theorem calG_of {x : Str} {st : Stmt} {N ps : List Str} {k : Nat} {sp : Sp} (A : At K mg x st) (S : FnScope N ps (defScope st)) (hb : BindEq x st ps)
    (len : ∀ vs H Q E, sp vs H Q E → vs.length = ps.length)
    (hbody : ∀ (f : Addr) (cdv : Value) (A : Around) (outer : List Env) (s : Shared) (H : Hp) (vs : List V) (Q : VK) (E : XK), (A.deeper (envOfC x (defScope st) s.heap.objs.size f cdv)).guards = some [] → Room k (A.deeper (envOfC x (defScope st) s.heap.objs.size f cdv)) → sp vs H Q E →
      ∃ t, PSs (cxOf CX0 P w K mg base N x (defScope st) f cdv A outer s H E).nox (defBody st) t ∧ t { nx := fun _ H' => Q .non H', rt := Q } (start N vs) H) : CalG P w K mg base (k + 1) x sp := by
  obtain ⟨f, fd, F, hm⟩ := A
  exact ⟨f, fd, ps, fnG_of F S len (hbody f), hm, F.kp, F.bindsN hb⟩
end
end MN
/-! the end of a law's row: its def called where nothing is being shown -/
namespace MN
open PySem PySem.Spec PyProof.Rows L2
theorem law_g {P : Program} {w : World} {K : PySem.W.Frag} {mg mb : Str → Option Value} {k : Nat} {fa a : Addr} {fd : FuncData} {x : Str} {sp : Sp} {s₁ : Shared} {vs : List Value} {ns : List Int}
    (KX : K.In s₁.heap) (hns : s₁.heap.Ns mainGlobals mg) (hb : s₁.heap.Ns builtinsNs mb) (hbb : ∀ x : Str, x ≠ "__name__" → mb x = bootBuiltins x) (hlim : s₁.heap.NoLimit) (hg : s₁.gens = #[])
    (ha : s₁.heap.get? a = some { cls := .type "list", data := .seq vs.toArray }) (hi : IntsAre vs ns) (hl : ns.length ≤ sizeLine) (hr : Room k callerA)
    (F : ∀ base : Heap, K.In base → base.Ns mainGlobals mg → FnG P w K mg base k fa fd [x] sp) (hbind : ∀ (s : Shared) (u : Value), BindsTo s fd ⟨[u], []⟩ [(x, u)])
    (hsp : ∀ H : Hp, Only H → SqL K H a (ns.map V.int) → sp [.ref a] H (fun v _ => v = .bl true) E0) :
    codeAny (model P w) callerA (.call (.ref fa) ⟨[.ref a], []⟩) (fun r s' => r = .ok (.ret (.bool true)) ∧ OldK s₁.heap s'.heap ∧ s'.os = s₁.os ∧ AllBare s'.gens) s₁ := by
  have rv := vals_ints hi
  have core : ∀ H : Hp, Only H → SqL K H a (ns.map V.int) → HOk P w H s₁.heap → (∀ b u, H b = some u → b = a ∧ K.lookup a = none) →
      codeAny (model P w) callerA (.call (.ref fa) ⟨[.ref a], []⟩) (fun r s' => r = .ok (.ret (.bool true)) ∧ OldK s₁.heap s'.heap ∧ s'.os = s₁.os ∧ AllBare s'.gens) s₁ := by
    intro H hO hS hok hA
    have free : ∀ {b : Addr}, b ≠ a → H b = none := fun {b} hb => by
      cases q : H b with
      | none => rfl
      | some u => exact absurd (hA b u q).1 hb
    have nsK : ∀ {b : Addr} {m : Str → Option Value}, s₁.heap.Ns b m → (hidT s₁.heap H).Ns b m := fun {b m} ⟨o, es, ep, e, d, r⟩ => by
      refine ⟨o, es, ep, hidT_get e (free fun z => ?_), d, r⟩
      rw [z, ha] at e
      cases e
      cases (show Data.seq vs.toArray _ = Data.dict es ep from d)
    have hKb : K.In (hidT s₁.heap H) := fun b o e => by
      refine hidT_get (KX b o e) ?_
      cases q : H b with
      | none => rfl
      | some u =>
        obtain ⟨z, zk⟩ := hA b u q
        rw [z, zk] at e
        cases e
    have hM : Mod K mg (hidT s₁.heap H) := by
      obtain ⟨mc, h1, h2⟩ := hlim
      exact ⟨hKb, nsK hns, ⟨mb, nsK hb, hbb⟩, ⟨mc, nsK h1, h2⟩⟩
    have e0 : Env0 P w K mg (hidT s₁.heap H) callerA [] s₁ H := by
      refine ⟨rfl, hM, fun b o e => of_hidT e, Nat.le_of_eq (hidT_size _ _), trivial, fun b hb => ?_, hok, .of_eq hg⟩
      cases (show b ∈ ([] : List Addr) from hb)
    refine codeAny_mono ((F _ hKb (nsK hns)).run callerA [] s₁ H ⟨[.ref a], []⟩ [.ref a] [.ref a] _ _ rfl hr e0 (hbind s₁ (.ref a)) (.cons rfl .nil) (hsp H hO hS)) fun r s' h => ?_
    match r, h with
    | .ok (.ret u), ⟨v, H', os, bare, un, hok', r', q⟩ =>
      cases (show v = .bl true from q)
      cases (show u = Value.bool true from r')
      refine ⟨rfl, OldK.of_keep fun b o e => ?_, os, bare⟩
      rcases hO b with z | ⟨ob, xs, z⟩
      · exact un.keep b o e z (fun y => nomatch (show b ∈ ([] : List Addr) from y)) (fun y => nomatch (show b ∈ ([] : List Addr) from y))
      · have e1 := (hok b _ z).1
        have e2 := (hok' b _ (un.frzs b ob _ z)).1
        rw [e] at e1
        cases e1
        exact e2
  cases hk : K.lookup a with
  | some o =>
    have e := KX a o hk
    rw [ha] at e
    cases e
    refine core (fun _ => none) (fun _ => .inl rfl) (.inr ⟨_, vs.toArray, _, hk, rfl, rfl, rfl, ?_, by simpa using rv⟩) (fun _ _ z => nomatch z) (fun _ _ z => nomatch z)
    rw [List.size_toArray, hi.length]
    exact hl
  | none =>
    let o : Obj := { cls := .type "list", data := .seq vs.toArray }
    have at_ : ∀ b u, upd (fun _ => none) a (.frz o (.lst (ns.map V.int))) b = some u → b = a ∧ u = .frz o (.lst (ns.map V.int)) := fun b u q => by
      by_cases z : b = a
      · subst z
        rw [upd_same] at q
        exact ⟨rfl, (Option.some.inj q).symm⟩
      · rw [upd_ne z] at q
        cases q
    refine core (upd (fun _ => none) a (.frz o (.lst (ns.map V.int)))) (fun b => ?_) (.inl (.inr ⟨o, upd_same⟩)) (fun b u q => ?_) (fun b u q => ⟨(at_ b u q).1, hk⟩)
    · by_cases z : b = a
      · subst z; exact .inr ⟨_, _, upd_same⟩
      · exact .inl (upd_ne z)
    · obtain ⟨rfl, rfl⟩ := at_ b u q
      exact ⟨ha, by rw [List.length_map]; exact hl, vs, _, rv, ha⟩
theorem walk_g {l : PySem.W.OpenLaw} {n k : Nat} {q : Program} {loose : List Str} {XP : (Str → Option Value) → Heap → Prop} {YP : World → Heap → Prop} {d : DefRec} {x : Str}
    (hn : l.most = some n) (hn2 : n ≤ sizeLine) (hdf : d.params.defaults = []) (hr : Room k callerA)
    (F : ∀ (w : World) (mg : Str → Option Value) (fa : Addr) (h : Heap), YP w h → h.Ns mainGlobals mg → mg d.name = some (.ref fa) →
      ∃ (K : PySem.W.Frag) (fd : FuncData) (sp : Sp), K.In h ∧ (∀ (s : Shared) (u : Value), BindsTo s fd ⟨[u], []⟩ [(x, u)]) ∧
        (∀ (H : Hp) (a : Addr) (ns : List Int), ns.length ≤ n → Only H → SqL K H a (ns.map V.int) → sp [.ref a] H (fun v _ => v = .bl true) E0) ∧
        ∀ base : Heap, K.In base → base.Ns mainGlobals mg → FnG l.prog w K mg base k fa fd [x] sp) :
    PySem.W.WalkO q loose XP YP l.row.toRowW d [] (fun f vs => PySem.call f vs) := by
  refine Att.attach_call hn hdf fun w s₀ s₁ mg mb fa o pm cd doc a vs ns G Y ho hd hcd hmg hobj hints hlen hg => ?_
  obtain ⟨K, fd, sp, KX, hb, hsp, hF⟩ := F w mg fa _ Y G.T.g hmg
  exact law_g KX G.T.g G.T.b G.T.builtins G.T.nolimit hg hobj hints (Nat.le_trans hlen hn2) hr hF hb fun H hO hS => hsp H a ns hlen hO hS
end MN
namespace MN
open PySem L2
def top (i : Nat) : Stmt := PySem.Challenge.pw_mendnumber_k03_whole_closed_prices.main.body.getD i (.Pass ⟨0, 0, 0, 0⟩)
end MN
/-! comprehensions whose tests and items leave the heap as it is -/
namespace MN
open PySem PySem.Spec PyProof.Rows L2
theorem seqL_upd {K : PySem.W.Frag} {H : Hp} {a D : Addr} {xs : List V} {o : HO} (h : SqL K H a xs) (hD : H D = none) : SqL K (upd H D o) a xs := by
  rcases h with (h | ⟨o, h⟩) | h
  · exact .inl (.inl (by rw [upd_ne (ne_of_none h hD)]; exact h))
  · exact .inl (.inr ⟨o, by rw [upd_ne (ne_of_none h hD)]; exact h⟩)
  · exact .inr h
theorem seqT_upd {K : PySem.W.Frag} {H : Hp} {a D : Addr} {xs : List V} {o : HO} (h : SqT K H a xs) (hD : H D = none) : SqT K (upd H D o) a xs := by
  rcases h with (h | ⟨o, h⟩) | h
  · exact .inl (.inl (by rw [upd_ne (ne_of_none h hD)]; exact h))
  · exact .inl (.inr ⟨o, by rw [upd_ne (ne_of_none h hD)]; exact h⟩)
  · exact .inr h
theorem Same.seqT {K : PySem.W.Frag} {H H' : Hp} {a : Addr} {xs : List V} (e : Same H H') (h : SqT K H a xs) : SqT K H' a xs := by
  rcases h with (h | ⟨o, h⟩) | h
  · exact .inl (.inl (e _ _ h))
  · exact .inl (.inr ⟨o, e _ _ h⟩)
  · exact .inr h
/-- the reading of a comprehension, from where its source's walk is known -/
abbrev LcGoal (J : It) (g : TG) (tt : TT) (te : TE) (vs : List Nat) (σ : L2.St) (H1 : Hp) (D : Addr) (Qd : Hp → Prop) : Prop := ∃ W : Nat → Nat → Hp → Prop, (∃ m, W 0 m (upd H1 D (.lst []))) ∧ ∀ i m H, W i m H →
  (J.stop i H ∧ Qd H) ∨ (J.go i H ∧ ∃ Nx : Hp → Prop, (∀ H', Nx H' → ∃ m', m' < m ∧ W (i + 1) m' H') ∧ ∀ x H', J.yld i H x H' → g x (wipe σ vs) H' fun σ2 H2 => wipe σ2 vs = wipe σ vs ∧ tt σ2 H2 fun b H3 =>
    if b = true then te σ2 H3 fun y H4 => ∃ acc, H4 D = some (.lst acc) ∧ acc.length < sizeLine ∧ Nx (upd H4 D (.lst (acc ++ [y]))) else Nx H3)
theorem lc_pure {J : It} {n : Nat} {G : Hp → Prop} {Y : Nat → Hp → V → Hp → Prop} (w : Walk J n G Y) (xs : List V) (hn : xs.length = n) (hz : n ≤ 1000000) (hY : ∀ i H x H', i < n → Y i H x H' → H' = H ∧ xs[i]? = some x)
    {j : Nat} {tt : TT} {te : TE} {vs : List Nat} {σ : L2.St} {H1 : Hp} {D : Addr} {Qd : Hp → Prop} (f : V → Bool) (v : V → V) (hG : ∀ acc, G (upd H1 D (.lst acc)))
    (hw : ∀ x ∈ xs, wipe ((wipe σ vs).set j (some x)) vs = wipe σ vs)
    (ht : ∀ x ∈ xs, ∀ (acc : List V) (Q : Bool → Hp → Prop), Q (f x) (upd H1 D (.lst acc)) → tt ((wipe σ vs).set j (some x)) (upd H1 D (.lst acc)) Q)
    (he : ∀ x ∈ xs, f x = true → ∀ (acc : List V) (Q : VK), Q (v x) (upd H1 D (.lst acc)) → te ((wipe σ vs).set j (some x)) (upd H1 D (.lst acc)) Q)
    (hd : Qd (upd H1 D (.lst ((xs.filter f).map v)))) : LcGoal J (gName j) tt te vs σ H1 D Qd := by
  refine lc_it w (fun i H' => H' = upd H1 D (.lst (((xs.take i).filter f).map v))) (by rw [List.take_zero]; rfl) (fun i H' _ e => by rw [e]; exact hG _) (fun i x H H' hi e y => ?_) (fun H' e => ?_)
  · obtain ⟨rfl, hx⟩ := hY i H x H' hi y
    subst e
    have hm : x ∈ xs := List.mem_of_getElem? hx
    have tk : xs.take (i + 1) = xs.take i ++ [x] := by rw [List.take_add_one, hx]; rfl
    refine ⟨hw x hm, ht x hm _ _ ?_⟩
    cases hf : f x with
    | false =>
      refine iteF ?_
      rw [tk, List.filter_append, List.filter_cons, hf]
      simp
    | true =>
      refine iteT (he x hm hf _ _ ⟨_, upd_same, ?_, ?_⟩)
      · rw [List.length_map]
        refine Nat.lt_of_le_of_lt (List.length_filter_le _ _) (Nat.lt_of_le_of_lt (List.length_take_le _ _) ?_)
        have : 1000000 < sizeLine := by decide
        omega
      · rw [upd_upd, tk, List.filter_append, List.filter_cons, hf]
        simp
  · rw [e, ← hn, List.take_length]
    exact hd
section
variable {K : PySem.W.Frag} {j : Nat} {tt : TT} {te : TE} {vs : List Nat} {σ : L2.St} {H1 : Hp} {D a : Addr} {Qd : Hp → Prop}
def signsOf (z : Str) : List V := z.cps.toList.map fun c => V.str ⟨#[c]⟩
theorem lc_str {z : Str} (hz : z.length ≤ 1000000) (f : V → Bool) (v : V → V) (hw : ∀ x ∈ signsOf z, wipe ((wipe σ vs).set j (some x)) vs = wipe σ vs)
    (ht : ∀ x ∈ signsOf z, ∀ (acc : List V) (Q : Bool → Hp → Prop), Q (f x) (upd H1 D (.lst acc)) → tt ((wipe σ vs).set j (some x)) (upd H1 D (.lst acc)) Q)
    (he : ∀ x ∈ signsOf z, f x = true → ∀ (acc : List V) (Q : VK), Q (v x) (upd H1 D (.lst acc)) → te ((wipe σ vs).set j (some x)) (upd H1 D (.lst acc)) Q)
    (hd : Qd (upd H1 D (.lst (((signsOf z).filter f).map v)))) : LcGoal (Its z) (gName j) tt te vs σ H1 D Qd := by
  refine lc_pure walk_str (signsOf z) (by simp [signsOf]) hz (fun i H x H' hi y => ?_) f v (fun _ => trivial) hw ht he hd
  obtain ⟨e, c, hc, rfl⟩ := y
  refine ⟨e, ?_⟩
  simp [signsOf, hc]
theorem lc_lst {xs : List V} (hs : SqL K H1 a xs) (hD : H1 D = none) (hz : xs.length ≤ 1000000) (f : V → Bool) (v : V → V) (hw : ∀ x ∈ xs, wipe ((wipe σ vs).set j (some x)) vs = wipe σ vs)
    (ht : ∀ x ∈ xs, ∀ (acc : List V) (Q : Bool → Hp → Prop), Q (f x) (upd H1 D (.lst acc)) → tt ((wipe σ vs).set j (some x)) (upd H1 D (.lst acc)) Q)
    (he : ∀ x ∈ xs, f x = true → ∀ (acc : List V) (Q : VK), Q (v x) (upd H1 D (.lst acc)) → te ((wipe σ vs).set j (some x)) (upd H1 D (.lst acc)) Q)
    (hd : Qd (upd H1 D (.lst ((xs.filter f).map v)))) : LcGoal (Itl K a) (gName j) tt te vs σ H1 D Qd :=
  lc_pure walk_list xs rfl hz (fun _ _ _ _ _ y => y) f v (fun _ => seqL_upd hs hD) hw ht he hd
theorem lc_tpl {xs : List V} (hs : SqT K H1 a xs) (hD : H1 D = none) (hz : xs.length ≤ 1000000) (f : V → Bool) (v : V → V) (hw : ∀ x ∈ xs, wipe ((wipe σ vs).set j (some x)) vs = wipe σ vs)
    (ht : ∀ x ∈ xs, ∀ (acc : List V) (Q : Bool → Hp → Prop), Q (f x) (upd H1 D (.lst acc)) → tt ((wipe σ vs).set j (some x)) (upd H1 D (.lst acc)) Q)
    (he : ∀ x ∈ xs, f x = true → ∀ (acc : List V) (Q : VK), Q (v x) (upd H1 D (.lst acc)) → te ((wipe σ vs).set j (some x)) (upd H1 D (.lst acc)) Q)
    (hd : Qd (upd H1 D (.lst ((xs.filter f).map v)))) : LcGoal (Itt K a) (gName j) tt te vs σ H1 D Qd :=
  lc_pure walk_tup xs rfl hz (fun _ _ _ _ _ y => y) f v (fun _ => seqT_upd hs hD) hw ht he hd
def rangeV (n : Nat) : List V := (List.range n).map fun (i : Nat) => V.int (i : Int)
theorem lc_rng {n : Nat} (hz : n ≤ 1000000) (f : V → Bool) (v : V → V) (hw : ∀ x ∈ rangeV n, wipe ((wipe σ vs).set j (some x)) vs = wipe σ vs)
    (ht : ∀ x ∈ rangeV n, ∀ (acc : List V) (Q : Bool → Hp → Prop), Q (f x) (upd H1 D (.lst acc)) → tt ((wipe σ vs).set j (some x)) (upd H1 D (.lst acc)) Q)
    (he : ∀ x ∈ rangeV n, f x = true → ∀ (acc : List V) (Q : VK), Q (v x) (upd H1 D (.lst acc)) → te ((wipe σ vs).set j (some x)) (upd H1 D (.lst acc)) Q)
    (hd : Qd (upd H1 D (.lst (((rangeV n).filter f).map v)))) : LcGoal (Itr 0 n) (gName j) tt te vs σ H1 D Qd := by
  refine lc_pure (walk_range (lo := 0)) (rangeV n) (by simp [rangeV]) hz (fun i H x H' hi y => ?_) f v (fun _ => trivial) hw ht he hd
  obtain ⟨e1, e2⟩ := y
  refine ⟨e1, ?_⟩
  simp [rangeV, hi, e2]
end
/-- tests and items may lay new objects -/
theorem lc_ext {J : It} {n : Nat} {G : Hp → Prop} {Y : Nat → Hp → V → Hp → Prop} (w : Walk J n G Y) (xs : List V) (hn : xs.length = n) (hz : n ≤ 1000000) (hY : ∀ i H x H', i < n → Y i H x H' → H' = H ∧ xs[i]? = some x)
    {j : Nat} {tt : TT} {te : TE} {vs : List Nat} {σ : L2.St} {H1 : Hp} {D : Addr} {Qd : Hp → Prop} (hD : H1 D = none) (f : V → Bool) (v : V → V) (hG : ∀ H', Same H1 H' → G H')
    (hw : ∀ x ∈ xs, wipe ((wipe σ vs).set j (some x)) vs = wipe σ vs)
    (ht : ∀ x ∈ xs, ∀ H2, Same H1 H2 → ∀ (Q : Bool → Hp → Prop), (∀ H3, Same H2 H3 → Q (f x) H3) → tt ((wipe σ vs).set j (some x)) H2 Q)
    (he : ∀ x ∈ xs, f x = true → ∀ H2, Same H1 H2 → ∀ (Q : VK), (∀ H3, Same H2 H3 → Q (v x) H3) → te ((wipe σ vs).set j (some x)) H2 Q)
    (hd : ∀ H', Same H1 H' → H' D = some (.lst ((xs.filter f).map v)) → Qd H') : LcGoal J (gName j) tt te vs σ H1 D Qd := by
  refine lc_it w (fun i H' => Same H1 H' ∧ H' D = some (.lst (((xs.take i).filter f).map v))) ⟨fun b o e => by rw [upd_ne (ne_of_none e hD)]; exact e, by rw [List.take_zero]; exact upd_same⟩ (fun i H' _ e => hG _ e.1) (fun i x H H' hi e y => ?_) (fun H' e => ?_)
  · obtain ⟨rfl, hx⟩ := hY i H x H' hi y
    obtain ⟨e1, e2⟩ := e
    have hm : x ∈ xs := List.mem_of_getElem? hx
    have tk : xs.take (i + 1) = xs.take i ++ [x] := by rw [List.take_add_one, hx]; rfl
    refine ⟨hw x hm, ht x hm _ e1 _ fun H3 e3 => ?_⟩
    cases hf : f x with
    | false =>
      refine iteF ⟨e1.trans e3, ?_⟩
      rw [tk, List.filter_append, List.filter_cons, hf]
      simpa using e3 _ _ e2
    | true =>
      refine iteT (he x hm hf _ (e1.trans e3) _ fun H4 e4 => ⟨_, e4 _ _ (e3 _ _ e2), ?_, fun b o q => ?_, ?_⟩)
      · rw [List.length_map]
        refine Nat.lt_of_le_of_lt (List.length_filter_le _ _) (Nat.lt_of_le_of_lt (List.length_take_le _ _) ?_)
        have : 1000000 < sizeLine := by decide
        omega
      · rw [upd_ne (ne_of_none q hD)]
        exact e4 _ _ (e3 _ _ (e1 _ _ q))
      · rw [upd_same, tk, List.filter_append, List.filter_cons, hf]
        simp
  · rw [← hn, List.take_length] at e
    exact hd H' e.1 e.2
section
variable {K : PySem.W.Frag} {j : Nat} {tt : TT} {te : TE} {vs : List Nat} {σ : L2.St} {H1 : Hp} {D a : Addr} {Qd : Hp → Prop}
theorem lc_tplE {xs : List V} (hs : SqT K H1 a xs) (hD : H1 D = none) (hz : xs.length ≤ 1000000) (f : V → Bool) (v : V → V) (hw : ∀ x ∈ xs, wipe ((wipe σ vs).set j (some x)) vs = wipe σ vs)
    (ht : ∀ x ∈ xs, ∀ H2, Same H1 H2 → ∀ (Q : Bool → Hp → Prop), (∀ H3, Same H2 H3 → Q (f x) H3) → tt ((wipe σ vs).set j (some x)) H2 Q)
    (he : ∀ x ∈ xs, f x = true → ∀ H2, Same H1 H2 → ∀ (Q : VK), (∀ H3, Same H2 H3 → Q (v x) H3) → te ((wipe σ vs).set j (some x)) H2 Q)
    (hd : ∀ H', Same H1 H' → H' D = some (.lst ((xs.filter f).map v)) → Qd H') : LcGoal (Itt K a) (gName j) tt te vs σ H1 D Qd :=
  lc_ext walk_tup xs rfl hz (fun _ _ _ _ _ y => y) hD f v (fun _ e => Same.seqT e hs) hw ht he hd
theorem lc_lstE {xs : List V} (hs : SqL K H1 a xs) (hD : H1 D = none) (hz : xs.length ≤ 1000000) (f : V → Bool) (v : V → V) (hw : ∀ x ∈ xs, wipe ((wipe σ vs).set j (some x)) vs = wipe σ vs)
    (ht : ∀ x ∈ xs, ∀ H2, Same H1 H2 → ∀ (Q : Bool → Hp → Prop), (∀ H3, Same H2 H3 → Q (f x) H3) → tt ((wipe σ vs).set j (some x)) H2 Q)
    (he : ∀ x ∈ xs, f x = true → ∀ H2, Same H1 H2 → ∀ (Q : VK), (∀ H3, Same H2 H3 → Q (v x) H3) → te ((wipe σ vs).set j (some x)) H2 Q)
    (hd : ∀ H', Same H1 H' → H' D = some (.lst ((xs.filter f).map v)) → Qd H') : LcGoal (Itl K a) (gName j) tt te vs σ H1 D Qd :=
  lc_ext walk_list xs rfl hz (fun _ _ _ _ _ y => y) hD f v (fun _ e => Same.seq e hs) hw ht he hd
end
theorem yes_q {σ : L2.St} {H : Hp} {Q : Bool → Hp → Prop} (h : Q true H) : tYes σ H Q := h
theorem filter_all {xs : List V} : xs.filter (fun _ => true) = xs := by simp
end MN
namespace MN
open PySem PySem.Spec PyProof.Rows L2
/-- the built-in names that no def of the module hides; the signs -/
structure Blt (mg : Str → Option Value) : Prop where
  isinstance : mg "isinstance" = none
  str : mg "str" = none
  len : mg "len" = none
  all : mg "all" = none
  tuple : mg "tuple" = none
  int : mg "int" = none
  bool : mg "bool" = none
  list : mg "list" = none
  dict : mg "dict" = none
  range : mg "range" = none
  sorted : mg "sorted" = none
  zip : mg "zip" = none
  max : mg "max" = none
  min : mg "min" = none
  abs : mg "abs" = none
  repr : mg "repr" = none
  sum : mg "sum" = none
  any : mg "any" = none
  set : mg "set" = none
  enumerate : mg "enumerate" = none
  SIGNS : ∃ u, mg "SIGNS" = some u ∧ RelV (.str "abcde") u
def bltNames : List Str := ([("isinstance" : Str), ("str" : Str), ("len" : Str), ("all" : Str), ("tuple" : Str), ("int" : Str), ("bool" : Str), ("list" : Str)] : List Str) ++ ([("dict" : Str), ("range" : Str), ("sorted" : Str), ("zip" : Str), ("max" : Str), ("min" : Str), ("abs" : Str), ("repr" : Str)] : List Str) ++ ([("sum" : Str), ("any" : Str), ("set" : Str), ("enumerate" : Str)] : List Str)
theorem Blt.of {mg : Str → Option Value} (h : ∀ x ∈ bltNames, mg x = none) (hs : ∃ u, mg "SIGNS" = some u ∧ RelV (.str "abcde") u) : Blt mg := by
  refine ⟨h _ ?_, h _ ?_, h _ ?_, h _ ?_, h _ ?_, h _ ?_, h _ ?_, h _ ?_, h _ ?_, h _ ?_, h _ ?_, h _ ?_, h _ ?_, h _ ?_, h _ ?_, h _ ?_, h _ ?_, h _ ?_, h _ ?_, h _ ?_, hs⟩ <;> simp [bltNames]
end MN
/-! rules of one's own: repr of data, powers, texts repeated, a tuple turned round -/
namespace MN
open PySem PySem.Spec PyProof.Rows L2
section
variable {X : Cx}
/-- repr of lists and tuples of data -/
def rRepr (K : PySem.W.Frag) : List V → Hp → VK → Prop := fun xs H Q => ∃ (x : V) (d : PyData), xs = [x] ∧ Dp K H x d ∧ isDisplay d = true ∧ d.showable = true ∧ d.hasDict = false ∧ d.depth ≤ 60 ∧ d.shown.length ≤ sizeLine ∧ Q (.str d.shown) H
theorem call_repr (gd : X.A.guards = some []) (hu : X.A.units + 64 < cLine) : CallR X (.builtin "repr") (rRepr X.K) := by
  intro pins s σ H vs us Q I r h
  obtain ⟨x, d, rfl, hd, h1, h2, h3, h4, h5, q⟩ := h
  cases r with
  | cons rx rn =>
    cases rn
    obtain ⟨as, rd⟩ := Dp.reads I d x _ hd rx
    obtain ⟨a, rfl⟩ := isRef_of_reads rd h1
    refine repr_of_reads' rd h2 (PyData.noDict_hsm h3) gd (by omega) (fun _ _ e => e) (fun h' u tk hk => ?_) h5
    exact ⟨.str d.shown, H, I.kept hk, ⟨u, rfl⟩, q⟩
/-- i ** j, as far as the bits go -/
theorem op_powB : OpR X (binaryOp .Pow) (rI (fun i j => 0 ≤ j ∧ (Builtin.Int.intBits i : Int) * j ≤ 2 ^ 27) fun i j => .int (i ^ j.toNat)) := opI fun _ _ _ _ _ _ _ hc q => pow_int hc.1 hc.2 q
/-- s * n -/
def repS (z : Str) (n : Int) : Str := ⟨((List.replicate n.toNat z.cps.toList).flatten).toArray⟩
theorem foldl_app (l : List (Array Nat)) : ∀ a : Array Nat, (l.foldl (· ++ ·) a).toList = a.toList ++ (l.map Array.toList).flatten := by
  induction l with
  | nil => intro a; simp
  | cons x l ih => intro a; rw [List.foldl_cons, ih]; simp
theorem repS_length (z : Str) (n : Int) : (repS z n).length = n.toNat * z.length := by
  simp [repS, Str.length]
def rRepS : R2 := fun x y H Q => ∃ (z : Str) (n : Int), x = .str z ∧ y = .int n ∧ 0 ≤ n ∧ n ≤ 100000 ∧ z.length ≤ 100 ∧ Q (.str (repS z n)) H
theorem op_repS : OpR X (binaryOp .Mult) rRepS := by
  intro pins s σ H x y v u Q I rx ry h
  obtain ⟨z, n, rfl, rfl, h0, h1, h2, q⟩ := h
  obtain ⟨t, rfl⟩ := rx
  obtain ⟨t2, rfl⟩ := ry
  have hb : z.length * n.toNat ≤ 100 * 100000 := Nat.mul_le_mul h2 (by omega)
  have hl : Builtin.Str.tooLong (z.length * n.toNat) = false := by
    have h9 : z.length * n.toNat ≤ sizeLine := Nat.le_trans hb (by decide)
    exact decide_eq_false (by omega)
  have hdiv : ¬ n < 1 → ¬ ((z.length : Int) > (2 ^ 63 - 1) / n) := fun hn => by
    have e : (100 : Int) ≤ (2 ^ 63 - 1) / n := (Int.le_ediv_iff_mul_le (by omega)).mpr (by omega)
    omega
  refine P.mul_str (by simp only [Bool.or_eq_false_iff, decide_eq_false_iff_not]; omega) (fun hn _ => hdiv hn) (fun _ _ => hl) ?_
  by_cases c1 : n < 1
  · have e : repS z n = Str.empty := by
      have : n.toNat = 0 := by omega
      simp [repS, this, Str.empty]
    rw [if_pos c1]
    rw [e] at q
    exact ⟨by decide, .str Str.empty, H, I.tok _, ⟨_, rfl⟩, q⟩
  · rw [if_neg c1]
    by_cases c2 : (n == 1 || z.length == 0) = true
    · rw [if_pos c2]
      have e : repS z n = z := by
        rw [Bool.or_eq_true] at c2
        rcases c2 with c2 | c2
        · have : n = 1 := eq_of_beq c2
          subst this
          simp [repS]
        · have hz : z.cps.toList = [] := by
            have : z.cps.size = 0 := eq_of_beq c2
            simpa using this
          obtain ⟨⟨l⟩⟩ := z
          cases hz
          simp [repS]
      rw [e] at q
      exact ⟨.str z, H, I, ⟨_, rfl⟩, q⟩
    · rw [if_neg c2]
      have e : (⟨(List.replicate n.toNat z.cps).foldl (· ++ ·) #[]⟩ : Str) = repS z n := by
        have := foldl_app (List.replicate n.toNat z.cps) #[]
        simp only [repS]
        congr 1
        apply Array.toList_inj.mp
        rw [this]
        simp
      rw [e]
      refine ⟨?_, .str (repS z n), H, I.tok _, ⟨_, rfl⟩, q⟩
      show (repS z n).length ≤ sizeLine
      rw [repS_length, Nat.mul_comm]
      exact Nat.le_trans hb (by decide)
/-! ### rules in a comprehension's block: the text's facts K are given by name -/
section
variable {K : PySem.W.Frag} (hK : X.K = K)
include hK
theorem lenK : CallR X (.builtin "len") (fun xs H Q => ∃ p ys, xs = [.ref p] ∧ (SqL K H p ys ∨ SqT K H p ys) ∧ Q (.int (ys.length : Nat)) H) := hK ▸ call_len_seq
theorem allK (hc : X.calm = true) : CallR X (.builtin "all") (rAll K) := hK ▸ cr_all hc
theorem isiK : CallR X (.builtin "isinstance") (rIsi K) := hK ▸ call_isi
theorem ixLK : IxR X (rIxL K) := hK ▸ ix_list
theorem ixTK : IxR X (rIxT K) := hK ▸ ix_tup
theorem inSeqK : OpR X (compareOp .In) (rIn K false) := hK ▸ op_in_seq
theorem notInSeqK : OpR X (compareOp .NotIn) (rIn K true) := hK ▸ op_notIn_seq
end
/-! ### methods of lists, the context a letter -/
section
variable {o e : Expr} {to te : TE} {apos cpos : Pos}
theorem pe_popAt (K : PySem.W.Frag) (hK : X.K = K) (ho : PE X o to) (he : PE X e te)
    (hbase : attributeBase o "pop" X.env (eval o X.env) = eval o X.env := by rfl)
    (hfew : ((backTo cpos (starEach [e] X.env)).all (fun x => !x.1) && (backToKw cpos (keywordEach [] X.env)).all (fun x => x.1.isSome) && decide ([e].length + ([] : List Keyword).length + (if ([] : List Keyword).isEmpty then 0 else 1) < 30)) = true := by rfl)
    (hline : (apos.endLine == cpos.line) = true := by rfl) (hs : starEach [e] X.env = (false, eval e X.env) :: starEach [] X.env := by rfl) : PE X (.Call (.Attribute o "pop" apos) [e] [] cpos) (tBM K "list" rPopAt to (tCons te tNil)) := hK ▸ pe_bm PySem.F.plainAttrs_list PySem.F.slot_list_pop PySem.F.type_list_pop mt_popAt ho (pa_cons he pa_nil hs) hbase hfew hline hs rfl
theorem pe_append (K : PySem.W.Frag) (hK : X.K = K) (ho : PE X o to) (he : PE X e te)
    (hbase : attributeBase o "append" X.env (eval o X.env) = eval o X.env := by rfl)
    (hfew : ((backTo cpos (starEach [e] X.env)).all (fun x => !x.1) && (backToKw cpos (keywordEach [] X.env)).all (fun x => x.1.isSome) && decide ([e].length + ([] : List Keyword).length + (if ([] : List Keyword).isEmpty then 0 else 1) < 30)) = true := by rfl)
    (hline : (apos.endLine == cpos.line) = true := by rfl) (hs : starEach [e] X.env = (false, eval e X.env) :: starEach [] X.env := by rfl) : PE X (.Call (.Attribute o "append" apos) [e] [] cpos) (tBM K "list" rAppend to (tCons te tNil)) := hK ▸ pe_bm PySem.F.plainAttrs_list PySem.F.slot_list_append PySem.F.type_list_append mt_append ho (pa_cons he pa_nil hs) hbase hfew hline hs rfl
end
end
end MN
/-! list(d.values()); a class called through a local name; what is never evaluated -/
namespace MN
open PySem PySem.Spec PyProof.Rows L2
section
variable {X : Cx}
def tNo : TE := fun _ _ _ => False
theorem pe_no {e : Expr} : PE X e tNo := ⟨fun _ _ _ _ _ _ h => h.elim⟩
theorem pi_no {tg e : Expr} : PI X tg e (fun _ _ _ => False) := ⟨fun _ _ _ _ _ _ h => h.elim⟩
def tListVals (te : TE) : TE := fun σ H Q => te σ H fun x H1 => ∃ (d : Addr) (kvs : List (Key × V)), x = .ref d ∧ H1 d = some (.dK kvs) ∧ ∀ q, H1 q = none → Q (.ref q) (upd H1 q (.lst (kvs.map (·.2))))
theorem kv_vals : ∀ {kvs : List (Key × V)} {vs : List (Key × Value)}, KV kvs vs → Vals (kvs.map (·.2)) (vs.map (·.2))
  | [], [], _ => .nil
  | _ :: _, _ :: _, .cons h t => .cons h.2 (kv_vals t)
variable {e : Expr} {te : TE} {p apos cpos pos : Pos}
/-- list(e.values()) -/
theorem pe_listVals (hc : X.calm = true) (he : PE X e te) (hg : Gl X "list") (hm : X.mg "list" = none) (hbase : attributeBase e "values" X.env (eval e X.env) = eval e X.env := by rfl) (hline : (apos.endLine == cpos.line) = true := by rfl)
    (hs : starEach [.Call (.Attribute e "values" apos) [] [] cpos] X.env = (false, eval (.Call (.Attribute e "values" apos) [] [] cpos) X.env) :: starEach [] X.env := by rfl) :
    PE X (.Call (.Name "list" p) [.Call (.Attribute e "values" apos) [] [] cpos] [] pos) (tListVals te) := by
  refine ⟨fun pins s σ H Q I hq => ?_⟩
  refine wpAny_Call_Name_kw (ld_blt I hg hm boot_list ?_)
  refine PyProof.Rows.callWith_type1 ?_ hs rfl
  rw [hs]
  show wpAny _ _ (spliced ((false, eval (.Call (.Attribute e "values" apos) [] [] cpos) X.env) :: backTo pos (starEach [] X.env))) _ _ s
  refine Calls.spliced_cons ?_
  refine wpAny_Call_method (T := "dict") (id := "dict.values") hbase rfl hline F.plainAttrs_dict F.slot_dict_values F.type_dict_values (thn (he.run pins s σ H _ I hq) fun u s1 ⟨x, H1, I1, rx, d, kvs, ex, hd, q⟩ => ?_)
  subst ex
  obtain rfl : u = Value.ref d := rx
  obtain ⟨hz, hs0, vs, kv, hdo⟩ := I1.hok d _ hd
  obtain ⟨ep, hat⟩ := hdo.dictAt
  have lk : kvs.length = vs.length := Paired.length kv
  have I2 : Inv X pins σ H1 { s1 with heap := s1.heap.push { cls := .type "dict_values", data := .fields #[.ref d] } } := I1.kept (t' := s1.toks) fun b ob q => Heap.get?_push_of_some _ q
  refine ⟨hdo.typeIs, hdo.mapOf.noDict, ?_⟩
  show wpAny _ _ (callWith cpos (.builtin "dict.values") [.ref d] [] []) _ X.xe s1
  refine method_meetsIn F.slot_dict_values F.entry_dict_values rfl (PySem.evalArgs_none ⟨rfl, hdo.typeIs, F.args_dict_values_1 _, _, meets_dict_values (mixKind X.prog X.w) d hs0, ⟨vs, hdo⟩, ?_⟩)
  refine Calls.spliced_nil ?_
  refine PySem.W.kdl_call (PySem.W.kdl_values (knd := mixKind X.prog X.w) (kvs := vs) (ep := ep)) (I1.ok.hd hc) ⟨⟨_, Heap.get?_push_size _ rfl, rfl, rfl⟩, hat.push _⟩ (by rw [← lk]; exact hz) fun h' tk acc' c' hkeep hS hacc => ?_
  have el : acc'.toList.length = acc'.size := by simp
  have ev : acc'.toList = vs.map (·.2) := PySem.W.kdl_vals_eq acc'.toList (by rw [el, hacc.1]) fun j v h2 => hacc.2 j v (by rw [← Array.getElem?_toList]; exact h2)
  refine ⟨.ref _, upd H1 _ (.lst (kvs.map (·.2))), I2.laid hkeep (Nat.le_refl _) (show ObjOk X.prog X.w _ _ _ (.lst (kvs.map (·.2))) from ⟨?_, acc'.toList, c', ?_, ?_⟩), rfl, q _ (I2.hok.fresh (Nat.le_refl _))⟩
  · rw [List.length_map]; exact hz
  · rw [ev]; exact kv_vals kv
  · rw [Array.toArray_toList]; exact hS
end
section
variable {X : Cx} {CX : CXT} {k i : Nat} {f C : Addr} {fd : FuncData} {ps ks : List Str} {sp : Sp} {E : XK} {x : Str} {p pos : Pos} {kws : List Keyword} {tk : TA} {g : List Value → List Value → List Value} {gV : List V → List V → List V}
/-- the class that the i-th slot holds, called by keywords alone -/
def tMakeKL (i : Nat) (C : Addr) (m : Nat) (sp : Sp) (gV : List V → List V → List V) (E : XK) (tk : TA) : TE := fun σ H Q => σ[i]? = some (some (.ref C)) ∧ tMakeK C 0 m sp gV E tNil tk σ H Q
theorem pe_makeKL (M : Mk X.K C f) (F : FnOk X.prog X.w X.K X.mg X.base CX k f fd ps sp) (hr : Room (k + 1) X.A) (hN : X.N[i]? = some x) (hv : Vis X.env.scope x) (hb : KBn X.K fd ps 1 ks g gV) (hx : Passes CX X E) (hkw : PK X kws tk)
    (hall : (backToKw pos (keywordEach kws X.env)).all (·.1.isSome) = true := by rfl) (hks : (backToKw pos (keywordEach kws X.env)).filterMap (·.1) = ks := by rfl) (hdb : (x == ("__debug__" : Str)) = false := by decide) (hcd : (x == ("__classdict__" : Str)) = false := by decide)
    (hpl : ((backTo pos (starEach [] X.env)).any (·.1) || (backToKw pos (keywordEach kws X.env)).any (·.1.isNone)) = false := by rfl) :
    PE X (.Call (.Name x p) [] kws pos) (tMakeKL i C ks.length sp gV E tk) := by
  refine ⟨fun pins s σ H Q I h => ?_⟩
  obtain ⟨hs, h⟩ := h
  refine wpAny_Call_Name_kw (thn ((pe_var (pos := p) hN hv hdb hcd).run pins s σ H (fun v H1 => v = .ref C ∧ H1 = H) I ⟨.ref C, hs, rfl, rfl⟩) fun u s1 ⟨v, H1, I1, r1, q1⟩ => ?_)
  obtain ⟨rfl, rfl⟩ := q1
  cases r1
  refine PySem.W.callWith_KW0 (h₀ := X.base) I.ok.mod.kin M.kp hall ?_ hpl
  refine thn (hkw.run pos pins s1 σ _ _ I1 h) fun ws s2 ⟨zs, H2, I2, rz, l1, l2, q2⟩ => ⟨I2.kIn, ?_⟩
  rw [hks]
  exact run_makeK (us := []) (vs := []) M F hr hb hx I2 .nil rz rfl l2 q2
end
/-! ### isinstance(value, str) where value may be an instance with slots -/
/-- an instance with slots, of a class that is no text -/
def SlNo (K : PySem.W.Frag) (H : Hp) (v : V) (u : Value) : Prop := ∃ a C dx vs, v = .ref a ∧ SlX.Slt H a C dx vs ∧ SlX.SCls K C ∧ SlX.SIsi K C ∧ PySem.W.kitOne K (.ref C) u = some false
def IsX (K : PySem.W.Frag) (H : Hp) (v : V) (c : String) (b : Bool) : Prop := (∃ t, TyX K H v t ∧ PySem.W.kitOne K t (.type c) = some b) ∨ (b = false ∧ SlNo K H v (.type c))
theorem IsX.str {K : PySem.W.Frag} {H : Hp} {z : Str} : IsX K H (.str z) "str" true := .inl ⟨_, .base (.str z), kit_ty (by decide +kernel)⟩
def rIsS (K : PySem.W.Frag) : List V → Hp → VK → Prop := fun xs H Q => ∃ x c b, xs = [x, .ty c] ∧ IsX K H x c b ∧ Q (.bl b) H
theorem call_isS {X : Cx} : CallR X (.builtin "isinstance") (rIsS X.K) := by
  intro pins s σ H xs us Q I r h
  obtain ⟨x, c, b, rfl, h | ⟨rfl, a, C, dx, vs, rfl, h1, h2, h3, h4⟩, q⟩ := h
  · obtain ⟨t, h1, h2⟩ := h
    exact call_isi pins s σ H _ us Q I r ⟨x, .ty c, t, .type c, b, rfl, .ty _, h1, h2, q⟩
  · refine SlX.call_isiSl (.type c) pins s σ H _ us Q I r ⟨a, C, dx, vs, .ty c, false, rfl, rfl, fun w e => e, h1, h2, h3, h4, q⟩
end MN
/-! lemmas that hang on no law: walks, locked dicts, instances with slots -/
namespace MN
open PySem PySem.Spec PyProof.Rows L2
theorem same_new {H : Hp} {p : Addr} {o : HO} (h : H p = none) : Same H (upd H p o) := fun b u e => by rw [upd_ne (ne_of_none e h)]; exact e
theorem tyT {K : PySem.W.Frag} {H : Hp} {t : Addr} {xs : List V} (h : SqT K H t xs) : TyX K H (.ref t) (.type "tuple") := by
  rcases h with (h | ⟨o, h⟩) | h
  · exact .base (.tup h)
  · exact .fTuple h
  · obtain ⟨o, its, n, e1, e2, _⟩ := h
    exact .kTuple e1 e2
abbrev GlC (mg : Str → Option Value) (x : Str) (v : V) : Prop := ∃ u, mg x = some u ∧ RelV v u
theorem IsX.ty {K : PySem.W.Frag} {H : Hp} {v : V} {a c : String} {b : Bool} (h : TyX K H v (.type a)) (hk : kitB a c = some b) : IsX K H v c b := .inl ⟨_, h, kit_ty hk⟩
theorem pg_tupK {X : Cx} {pos : Pos} {K : PySem.W.Frag} (hK : X.K = K) {es : List Expr} {k : Nat} {t : TGs} {n : Nat} (hc : X.calm = true) (h : PGs X es t)
    (hn : (assignEach es X.env).length = n := by rfl) (hst : (assignEach es X.env).findIdx? (·.1) = none := by rfl) : PG X (.Tuple es k pos) (gTup K n t) := hK ▸ pg_tup hc h hn hst
theorem isSK {X : Cx} {K : PySem.W.Frag} (hK : X.K = K) : CallR X (.builtin "isinstance") (rIsS K) := hK ▸ call_isS
theorem walk_zipT {K : PySem.W.Frag} {a b : Addr} {xs ys : List V} {n : Nat} (hn : n = min xs.length ys.length) : Walk (RZ.ItzT K a b) n (fun H => SqT K H a xs ∧ SqT K H b ys) (YPair (fun i => xs[i]?) (fun i => ys[i]?)) := by
  subst hn
  refine ⟨fun i _ hi q => ?_, fun _ q => ⟨xs, ys, q.1, q.2, by omega⟩, fun i H v H' _ q y => ?_⟩
  · have h1 : i < xs.length := by omega
    have h2 : i < ys.length := by omega
    exact ⟨xs, ys, xs[i], ys[i], q.1, q.2, by simp [h1], by simp [h2]⟩
  · obtain ⟨T, x, y, h1, h2, h3, h4, h5⟩ := y
    exact ⟨T, x, y, h1, h2, h3, h4 xs q.1, h5 ys q.2⟩
section
variable {j : Nat} {tt : TT} {te : TE} {vs : List Nat} {σ : L2.St} {H1 : Hp} {D d : Addr} {o : Obj} {Qd : Hp → Prop}
theorem lc_keys {kvs : List (Key × V)} (hs : H1 d = some (.frz o (.dK kvs))) (hD : H1 D = none) (hz : kvs.length ≤ 1000000) (f : V → Bool) (v : V → V) (hw : ∀ x ∈ kvs.map (fun kv => kV kv.1), wipe ((wipe σ vs).set j (some x)) vs = wipe σ vs)
    (ht : ∀ x ∈ kvs.map (fun kv => kV kv.1), ∀ (acc : List V) (Q : Bool → Hp → Prop), Q (f x) (upd H1 D (.lst acc)) → tt ((wipe σ vs).set j (some x)) (upd H1 D (.lst acc)) Q)
    (he : ∀ x ∈ kvs.map (fun kv => kV kv.1), f x = true → ∀ (acc : List V) (Q : VK), Q (v x) (upd H1 D (.lst acc)) → te ((wipe σ vs).set j (some x)) (upd H1 D (.lst acc)) Q)
    (hd : Qd (upd H1 D (.lst (((kvs.map fun kv => kV kv.1).filter f).map v)))) : LcGoal (Itk d o kvs) (gName j) tt te vs σ H1 D Qd := by
  refine lc_pure walk_keys (kvs.map fun kv => kV kv.1) (by simp) hz (fun i H x H' hi y => ?_) f v (fun _ => by rw [upd_ne (ne_of_none hs hD)]; exact hs) hw ht he hd
  obtain ⟨e, k, v', h1, rfl⟩ := y
  exact ⟨e, by simp [h1]⟩
theorem dc_it {J : It} {n : Nat} {G : Hp → Prop} {Y : Nat → Hp → V → Hp → Prop} (w : Walk J n G Y) {g : TG} {tk tv : TE} (Pv : Nat → Hp → Prop) (h0 : Pv 0 (upd H1 D (.dK []))) (hG : ∀ i H, i ≤ n → Pv i H → G H)
    (hs : ∀ i x H H', i < n → Pv i H → Y i H x H' → g x (wipe σ vs) H' fun σ2 H2 => wipe σ2 vs = wipe σ vs ∧ tt σ2 H2 fun b H3 =>
      if b = true then tk σ2 H3 fun y H4 => tv σ2 H4 fun z H5 => ∃ kvs k, y = kV k ∧ H5 D = some (.dK kvs) ∧ kvs.length < sizeLine ∧ Pv (i + 1) (upd H5 D (.dK (putK kvs k z))) else Pv (i + 1) H3) (hd : ∀ H, Pv n H → Qd H) :
    ∃ W : Nat → Nat → Hp → Prop, (∃ m, W 0 m (upd H1 D (.dK []))) ∧ ∀ i m H, W i m H →
      (J.stop i H ∧ Qd H) ∨ (J.go i H ∧ ∃ Nx : Hp → Prop, (∀ H', Nx H' → ∃ m', m' < m ∧ W (i + 1) m' H') ∧ ∀ x H', J.yld i H x H' → g x (wipe σ vs) H' fun σ2 H2 => wipe σ2 vs = wipe σ vs ∧ tt σ2 H2 fun b H3 =>
        if b = true then tk σ2 H3 fun y H4 => tv σ2 H4 fun z H5 => ∃ kvs k, y = kV k ∧ H5 D = some (.dK kvs) ∧ kvs.length < sizeLine ∧ Nx (upd H5 D (.dK (putK kvs k z))) else Nx H3) := by
  refine ⟨fun i m H => m = n - i ∧ i ≤ n ∧ Pv i H, ⟨n, by simp, Nat.zero_le _, h0⟩, ?_⟩
  rintro i m H ⟨rfl, hi, p⟩
  have q := hG i H hi p
  by_cases hlt : i < n
  · exact .inr ⟨w.goes i H hlt q, Pv (i + 1), fun H' p' => ⟨n - (i + 1), by omega, rfl, hlt, p'⟩, fun x H' y => hs i x H H' hlt p (w.yields i H x H' hlt q y)⟩
  · obtain rfl : i = n := by omega
    exact .inl ⟨w.stops H q, hd H p⟩
theorem dp_it {J : It} {n : Nat} {G : Hp → Prop} {Y : Nat → Hp → V → Hp → Prop} {o0 : HO} (w : Walk J n G Y) {g : TG} {tk tv : TE} (Pv : Nat → Hp → Prop) (h0 : Pv 0 (upd H1 D o0)) (hG : ∀ i H, i ≤ n → Pv i H → G H)
    (hs : ∀ i x H H', i < n → Pv i H → Y i H x H' → g x (wipe σ vs) H' fun σ2 H2 => wipe σ2 vs = wipe σ vs ∧ tt σ2 H2 fun b H3 =>
      if b = true then tk σ2 H3 fun y H4 => tv σ2 H4 fun z H5 => ∃ H6, DPut H5 D y z H6 ∧ Pv (i + 1) H6 else Pv (i + 1) H3) (hd : ∀ H, Pv n H → Qd H) :
    ∃ W : Nat → Nat → Hp → Prop, (∃ m, W 0 m (upd H1 D o0)) ∧ ∀ i m H, W i m H →
      (J.stop i H ∧ Qd H) ∨ (J.go i H ∧ ∃ Nx : Hp → Prop, (∀ H', Nx H' → ∃ m', m' < m ∧ W (i + 1) m' H') ∧ ∀ x H', J.yld i H x H' → g x (wipe σ vs) H' fun σ2 H2 => wipe σ2 vs = wipe σ vs ∧ tt σ2 H2 fun b H3 =>
        if b = true then tk σ2 H3 fun y H4 => tv σ2 H4 fun z H5 => ∃ H6, DPut H5 D y z H6 ∧ Nx H6 else Nx H3) := by
  refine ⟨fun i m H => m = n - i ∧ i ≤ n ∧ Pv i H, ⟨n, by simp, Nat.zero_le _, h0⟩, ?_⟩
  rintro i m H ⟨rfl, hi, p⟩
  have q := hG i H hi p
  by_cases hlt : i < n
  · exact .inr ⟨w.goes i H hlt q, Pv (i + 1), fun H' p' => ⟨n - (i + 1), by omega, rfl, hlt, p'⟩, fun x H' y => hs i x H H' hlt p (w.yields i H x H' hlt q y)⟩
  · obtain rfl : i = n := by omega
    exact .inl ⟨w.stops H q, hd H p⟩
end
/-- nothing to walk over -/
theorem lc_none {J : It} {g : TG} {tt : TT} {te : TE} {vs : List Nat} {σ : L2.St} {H1 : Hp} {D : Addr} {Qd : Hp → Prop} (h : J.stop 0 (upd H1 D (.lst []))) (q : Qd (upd H1 D (.lst []))) : LcGoal J g tt te vs σ H1 D Qd :=
  ⟨fun i _ H => i = 0 ∧ H = upd H1 D (.lst []), ⟨0, rfl, rfl⟩, fun _ _ _ e => by
    obtain ⟨rfl, rfl⟩ := e
    exact .inl ⟨h, q⟩⟩
/-- locked, a list laid, unlocked -/
theorem same_lock {H : Hp} {a D : Addr} {u : HO} {o : Obj} {x : HO} (h : H a = some u) (hD : (upd H a (.frz o u)) D = none) : Same H (upd (upd (upd H a (.frz o u)) D x) a u) ∧ (upd (upd (upd H a (.frz o u)) D x) a u) D = some x ∧ D ≠ a := by
  have n : D ≠ a := fun z => by rw [z, upd_same] at hD; cases hD
  refine ⟨fun b y e => ?_, by rw [upd_ne n, upd_same], n⟩
  by_cases z : b = a
  · rw [z, upd_same]; rw [z, h] at e; exact e
  · rw [upd_ne z]
    have n2 : b ≠ D := fun q => by rw [upd_ne n] at hD; rw [q, hD] at e; cases e
    rw [upd_ne n2, upd_ne z]; exact e
theorem lc_keysL {j : Nat} {tt : TT} {te : TE} {vs : List Nat} {σ : L2.St} {H1 : Hp} {D a : Addr} {od : Obj} {kvs : List (Key × V)} {Qd : Hp → Prop} (h : H1 a = some (.dK kvs)) (hD : (upd H1 a (.frz od (.dK kvs))) D = none) (hz : kvs.length ≤ 1000000) (f : V → Bool) (v : V → V) (hw : ∀ x ∈ kvs.map (fun kv => kV kv.1), wipe ((wipe σ vs).set j (some x)) vs = wipe σ vs)
    (ht : ∀ x ∈ kvs.map (fun kv => kV kv.1), ∀ H2, H2 a = some (.frz od (.dK kvs)) → (∀ b o, b ≠ a → H1 b = some o → H2 b = some o) → ∀ (Q : Bool → Hp → Prop), Q (f x) H2 → tt ((wipe σ vs).set j (some x)) H2 Q)
    (he : ∀ x ∈ kvs.map (fun kv => kV kv.1), f x = true → ∀ H2, H2 a = some (.frz od (.dK kvs)) → (∀ b o, b ≠ a → H1 b = some o → H2 b = some o) → ∀ (Q : VK), Q (v x) H2 → te ((wipe σ vs).set j (some x)) H2 Q)
    (hd : ∀ H', H' a = some (.frz od (.dK kvs)) → Same H1 (upd H' a (.dK kvs)) → upd H' a (.dK kvs) D = some (.lst (((kvs.map fun kv => kV kv.1).filter f).map v)) → Qd H') :
    LcGoal (Itk a od kvs) (gName j) tt te vs σ (upd H1 a (.frz od (.dK kvs))) D Qd := by
  have n : D ≠ a := fun z => by rw [z, upd_same] at hD; cases hD
  have k1 : ∀ acc, upd (upd H1 a (.frz od (.dK kvs))) D (.lst acc) a = some (.frz od (.dK kvs)) := fun acc => by rw [upd_ne n.symm, upd_same]
  have k2 : ∀ acc b o, b ≠ a → H1 b = some o → upd (upd H1 a (.frz od (.dK kvs))) D (.lst acc) b = some o := fun acc b o nb e => by
    have n2 : b ≠ D := fun q => by rw [upd_ne n] at hD; rw [q, hD] at e; cases e
    rw [upd_ne n2, upd_ne nb]; exact e
  refine lc_keys upd_same hD hz f v hw (fun x hx acc Q q => ht x hx _ (k1 _) (k2 _) Q q) (fun x hx hf acc Q q => he x hx hf _ (k1 _) (k2 _) Q q) ?_
  obtain ⟨s, sD, _⟩ := same_lock (x := .lst (((kvs.map fun kv => kV kv.1).filter f).map v)) h hD
  exact hd _ (k1 _) s sD
theorem slt_same {H H' : Hp} {a C dx : Addr} {vs : List (Option V)} (e : Same H H') (h : SlX.Slt H a C dx vs) : SlX.Slt H' a C dx vs := by
  rcases h with ⟨h, rfl⟩ | ⟨h1, h2⟩
  · exact .inl ⟨e _ _ h, rfl⟩
  · exact .inr ⟨e _ _ h1, e _ _ h2⟩
theorem piTupK {X : Cx} {K : PySem.W.Frag} (hK : X.K = K) {tg l : Expr} {tl : TE} (hl : PE X l tl) : PI X tg l (iTup K tl) := hK ▸ pi_tup hl
theorem putK_le (kvs : List (Key × V)) (k : Key) (v : V) : (putK kvs k v).length ≤ kvs.length + 1 := by
  unfold putK
  split <;> simp
/-- an instance with slots, laid -/
def Sl2 (H : Hp) (a C dx : Addr) (vs : List (Option V)) : Prop := H a = some (SlX.SlO a C dx vs) ∧ H dx = some (.xd [])
theorem slH_sl2 {H : Hp} {a C dx : Addr} {vs : List (Option V)} (h : dx ≠ a) : Sl2 (SlX.slH H a C dx vs) a C dx vs := ⟨upd_same, by unfold SlX.slH; rw [upd_ne h, upd_same]⟩
/-- all but x and dx stays -/
def Kp (x dx : Addr) (H H' : Hp) : Prop := ∀ b o, b ≠ x → b ≠ dx → H b = some o → H' b = some o
theorem Kp.same {x dx : Addr} {H H1 H2 : Hp} (h : Kp x dx H H1) (e : Same H1 H2) : Kp x dx H H2 := fun b o n1 n2 q => e _ _ (h b o n1 n2 q)
theorem Kp.sl {x dx C : Addr} {vs : List (Option V)} {H H1 : Hp} (h : Kp x dx H H1) : Kp x dx H (SlX.slH H1 x C dx vs) := fun b o n1 n2 q => by
  rw [SlX.slH_ne n1 n2]; exact h b o n1 n2 q
section
variable {P : Program} {w : World} {K : PySem.W.Frag} {mg : Str → Option Value} {base : Heap}
theorem fnok_of {x qual : Str} {params : Arguments} {body : List Stmt} {scope : Scope} {dvs : List V} {kws : List (Str × V)} {f : Addr} {fd : FuncData} {N ps : List Str} {k : Nat} {sp : Sp} (F : FunD K x qual params body scope dvs kws f fd) (S : FnScope N ps scope) (len : ∀ vs H Q E, sp vs H Q E → vs.length = ps.length)
    (hbody : ∀ (cdv : Value) (A : Around) (outer : List Env) (s : Shared) (H : Hp) (vs : List V) (Q : VK) (E : XK), Room k (A.deeper (envOfC qual scope s.heap.objs.size f cdv)) → sp vs H Q E →
      ∃ t, PSs (cxOf CX0 P w K mg base N qual scope f cdv A outer s H E).nox body t ∧ t { nx := fun _ H' => Q .non H', rt := Q } (start N vs) H) : FnOk P w K mg base CX0 (k + 1) f fd ps sp :=
  F.ok S len fun cdv A outer s H vs Q E hr h => by
    obtain ⟨t, h1, h2⟩ := hbody cdv A outer s H vs Q E hr h
    exact ⟨t, h1.nox, h2⟩
abbrev FunAt (K : PySem.W.Frag) (x qual : Str) (st : Stmt) (dvs : List V) (f : Addr) (fd : FuncData) : Prop := FunD K x qual (defArgs st) (defBody st) (defScope st) dvs [] f fd
end
/-- a new object, in a word -/
theorem laid {H : Hp} {q : Addr} (o : HO) (h : H q = none) : Same H (upd H q o) ∧ upd H q o q = some o := ⟨same_new h, upd_same⟩
end MN
/-! t[::-1] of a tuple -/
namespace MN
open PySem PySem.Spec PyProof.Rows L2
theorem places_back (n : Nat) : Builtin.Slice.slicePlaces ((n : Int) - 1) (-1) (-1) = n := by
  unfold Builtin.Slice.slicePlaces
  rw [if_neg (by decide)]
  by_cases h : n = 0
  · subst h; rfl
  · rw [if_pos (by omega), Int.neg_neg, Int.ediv_one]
    omega
theorem filterMap_some {α β : Type} {f : α → Option β} {g : α → β} : ∀ {l : List α}, (∀ k ∈ l, f k = some (g k)) → l.filterMap f = l.map g
  | [], _ => rfl
  | x :: l, h => by
    rw [List.filterMap_cons, h x List.mem_cons_self, List.map_cons, filterMap_some fun k hk => h k (List.mem_cons_of_mem _ hk)]
theorem pick_back (xs : Array Value) : ((List.range xs.size).filterMap fun (k : Nat) => xs[(((xs.size : Int) - 1) + (k : Int) * (-1)).toNat]?).toArray = xs.toList.reverse.toArray := by
  congr 1
  have e : ∀ k ∈ List.range xs.size, (fun (k : Nat) => xs[(((xs.size : Int) - 1) + (k : Int) * (-1)).toNat]?) k = some (xs.toList.reverse.getD k .none) := by
    intro k hk
    have hk : k < xs.size := List.mem_range.mp hk
    have i : (((xs.size : Int) - 1) + (k : Int) * (-1)).toNat = xs.size - 1 - k := by omega
    simp only [i]
    have hl : k < xs.toList.reverse.length := by simpa using hk
    rw [List.getD_eq_getElem?_getD, List.getElem?_eq_getElem hl, List.getElem_reverse]
    rw [Array.getElem?_eq_getElem (by omega)]
    simp
  rw [filterMap_some e]
  apply List.ext_getElem?
  intro i
  rw [List.getElem?_map]
  by_cases hi : i < xs.size
  · rw [List.getElem?_range hi]
    have hl : i < xs.toList.reverse.length := by simpa using hi
    simp only [Option.map_some]
    rw [List.getD_eq_getElem?_getD, List.getElem?_eq_getElem hl]
    simp
  · rw [List.getElem?_eq_none (by simpa using hi), List.getElem?_eq_none (by simpa using hi)]
    rfl
section
variable {prog : Program} {w : World} {A : Around} {E : Value → Shared → Prop} {s : Shared}
theorem getItem_tuple_back {t sl : Addr} {items : Array Value} {vs : Value} {Q : Value → Shared → Prop} (ht : IsTup s.heap t items) (hs : s.heap.IsSliceOf sl .none .none vs) (ps : IsPart vs (some (-1)))
    (h : Q (.ref s.heap.objs.size) { s with heap := s.heap.push { cls := .type "tuple", data := .seq items.toList.reverse.toArray } }) (hsz : items.size ≤ sizeLine) : wpAny (model prog w) A (getItem (.ref t) (.ref sl)) Q E s := by
  have hok : sizeOk (.seq items.toList.reverse.toArray) := by
    show items.toList.reverse.toArray.size ≤ sizeLine
    simpa using hsz
  obtain ⟨os, hos, hcs, hds⟩ := id hs
  have hTs : s.TypeIs (.ref sl) "slice" := ⟨os, hos, hcs⟩
  unfold getItem
  try with_reducible refine wpAny_holding ?_
  first | refine wpAny_bind (wpAny_pure ?_) | skip
  refine wpAny_bind (wpAny_sequenceKey ht.typeIs (by decide) ?_)
  refine wpAny_bind (wpAny_callSpecial?_slot (name := Str.ofString "__getitem__") ht.typeIs PyProof.Rows.slot_tuple_getitem
    (wpAny_call_entry PyProof.Rows.slot_tuple_getitem ht.typeIs entry_tuple_getitem ?_ (args_tuple_getitem _ _)))
  show wpAny _ _ (Builtin.Tuple.tupleItemsOf (.ref t) >>= _) _ _ s
  refine wpAny_bind (tupleItemsOf_ ht ?_)
  refine wpAny_bind (wpAny_typeOf hTs ?_)
  rw [if_pos (by decide)]
  refine wpAny_bind (m := Builtin.Slice.sliceApplied (.ref sl) (pure (items.size : Int))) ?_
  unfold Builtin.Slice.sliceApplied Builtin.Slice.sliceFields
  refine wpAny_bind (wpAny_bind (wpAny_field hos hds (x := .none) rfl (wpAny_bind (wpAny_field hos hds (x := .none) rfl (wpAny_bind (wpAny_field hos hds (x := vs) rfl (wpAny_pure ?_)))))))
  refine wpAny_bind (HT.slicePart_ ps ?_)
  show wpAny _ _ (if ((-1 : Int) == 0) = true then _ else _) _ _ s
  rw [if_neg (by decide)]
  refine wpAny_bind (HT.slicePart_ .none (wpAny_bind (HT.slicePart_ .none (wpAny_bind (wpAny_pure ?_)))))
  show wpAny _ _ (pure ((items.size : Int) - 1, (-1 : Int), Builtin.Slice.slicePlaces ((items.size : Int) - 1) (-1) (-1))) _ _ s
  rw [places_back]
  refine wpAny_pure ?_
  have hno : ¬ (((items.size : Int) - 1 == 0 && (-1 : Int) == 1 && items.size == items.size) = true) := by simp
  show wpAny _ _ (if ((items.size : Int) - 1 == 0 && (-1 : Int) == 1 && items.size == items.size) = true then _ else _) _ _ s
  rw [if_neg hno, pick_back]
  first
    | exact wpAny_bind (m := Builtin.Tuple.tupleExact _) (wpAny_newObj_type (wpAny_pure ⟨_, rfl, wpAny_pure h⟩) hok)
    | exact wpAny_bind (m := Builtin.Tuple.tupleExact _) (wpAny_newObj_type (wpAny_bind (wpAny_pure (wpAny_pure ⟨_, rfl, wpAny_pure h⟩))) hok)
    | exact wpAny_bind (wpAny_bind (m := Builtin.Tuple.tupleExact _) (wpAny_newObj_type (wpAny_pure (wpAny_pure ⟨_, rfl, wpAny_pure h⟩)) hok))
    | exact wpAny_bind (wpAny_bind (m := Builtin.Tuple.tupleExact _) (wpAny_newObj_type (wpAny_pure ⟨_, rfl, wpAny_pure h⟩) hok))
end
section
variable {X : Cx}
def tRevT (K : PySem.W.Frag) (te : TE) : TE := fun σ H Q => te σ H fun x H1 => ∃ a xs, x = .ref a ∧ SqT K H1 a xs ∧ ∀ p, H1 p = none → Q (.ref p) (upd H1 p (.tup xs.reverse))
theorem pe_revT {e : Expr} {te : TE} {k : Nat} {p1 p2 p3 pos : Pos} (he : PE X e te) : PE X (.Subscript e (.Slice none none (some (.UnaryOp .USub (.Constant (.int 1) k p1) p2)) p3) pos) (tRevT X.K te) := by
  refine ⟨fun pins s σ H Q I h => ?_⟩
  refine Subscript_ (thn (he.run pins s σ H _ I h) fun v s1 ⟨x, H1, I1, r1, a, xs, ex, hx, q⟩ => ?_)
  subst ex
  cases r1
  have hst : PO X (some (.UnaryOp .USub (.Constant (.int 1) k p1) p2)) (tPart (tUn (rU fun i => .int (-i)) (tC (.int 1)))) := po_some (pe_un un_neg pe_int)
  refine wpAny_Slice (thn (po_none.run pins s1 σ H1 (fun o H2 => o = none ∧ H2 = H1) I1 ⟨rfl, rfl⟩) fun vl s2 ⟨l, H2, I2, pl, el, e2⟩ => ?_)
  cases el
  cases e2
  refine thn (po_none.run pins s2 σ H1 (fun o H3 => o = none ∧ H3 = H1) I2 ⟨rfl, rfl⟩) fun vu s3 ⟨u, H3, I3, pu, eu, e3⟩ => ?_
  cases eu
  cases e3
  refine thn (hst.run pins s3 σ H1 (fun o H4 => o = some (-1) ∧ H4 = H1) I3 ⟨1, rfl, -1, rfl, rfl, rfl⟩) fun vs s4 ⟨o, H4, I4, ps, eo, e4⟩ => ?_
  cases eo
  cases e4
  cases pl
  cases pu
  have I5 : Inv X pins σ H1 { s4 with heap := s4.heap.push { cls := .type "slice", data := .fields #[.none, .none, vs] } } := I4.kept (t' := s4.toks) fun b ob q => Heap.get?_push_of_some _ q
  obtain ⟨its, r, ht, hz⟩ := I5.tuple hx
  have hlen := r.length
  show wpAny (model X.prog X.w) X.A (subscriptTail e (.Slice none none (some (.UnaryOp .USub (.Constant (.int 1) k p1) p2)) p3) (.ref a) (.ref s4.heap.objs.size)) (EP X pins σ Q) X.xe { s4 with heap := s4.heap.push { cls := .type "slice", data := .fields #[.none, .none, vs] } }
  refine tail_any (ops := [.ref a, .ref s4.heap.objs.size]) ht.typeIs PyProof.Rows.slot_tuple_getitem.lookup ?_ (by with_unfolding_all rfl)
  refine getItem_tuple_back ht (Heap.IsSliceOf.new _ .none .none vs) ps ?_ (by rw [List.size_toArray]; omega)
  refine ⟨.ref _, _, I5.laid (t' := s4.toks) (o := .tup xs.reverse) (fun b ob q => Heap.get?_push_of_some _ q) (Nat.le_refl _) ?_, rfl, q _ (I5.hok.fresh (Nat.le_refl _))⟩
  exact ⟨by rw [List.length_reverse]; exact hz, _, r.reverse, IsTup.new _ _⟩
end
end MN
/-! the order of words: by length, then sign by sign -/
namespace MN
open PySem
def ahead (a b : Str) : Prop := a.length < b.length ∨ (a.length = b.length ∧ a.cps.toList < b.cps.toList)
instance (a b : Str) : Decidable (ahead a b) := by unfold ahead; infer_instance
theorem str_ext {a b : Str} (h : a.cps.toList = b.cps.toList) : a = b := PySem.W.str_of_cps h
theorem str_eq_iff {a b : Str} : a = b ↔ a.cps.toList = b.cps.toList := ⟨fun h => by rw [h], str_ext⟩
theorem ahead_irrefl (a : Str) : ¬ ahead a a := fun h => by
  rcases h with h | ⟨_, h⟩
  · omega
  · exact List.lt_irrefl _ h
theorem ahead_trans {a b c : Str} (h : ahead a b) (h' : ahead b c) : ahead a c := by
  rcases h with h | ⟨e, h⟩ <;> rcases h' with h' | ⟨e', h'⟩
  · exact .inl (by omega)
  · exact .inl (by omega)
  · exact .inl (by omega)
  · exact .inr ⟨by omega, List.lt_trans h h'⟩
theorem ahead_total (a b : Str) : ahead a b ∨ a = b ∨ ahead b a := by
  by_cases h1 : a.length < b.length
  · exact .inl (.inl h1)
  by_cases h2 : b.length < a.length
  · exact .inr (.inr (.inl h2))
  have e : a.length = b.length := by omega
  by_cases h3 : a.cps.toList < b.cps.toList
  · exact .inl (.inr ⟨e, h3⟩)
  by_cases h4 : b.cps.toList < a.cps.toList
  · exact .inr (.inr (.inr ⟨e.symm, h4⟩))
  exact .inr (.inl (str_ext (List.le_antisymm (List.not_lt.mp h4) (List.not_lt.mp h3))))
def leW (a b : Str) : Bool := !decide (ahead b a)
/-- each once, in the order in which they are met -/
def uniq (zs : List Str) : List Str := zs.foldl (fun acc z => if z ∈ acc then acc else acc ++ [z]) []
theorem uniq_spec (zs : List Str) : ∀ acc : List Str, acc.Nodup → (zs.foldl (fun acc z => if z ∈ acc then acc else acc ++ [z]) acc).Nodup ∧ ∀ x, x ∈ zs.foldl (fun acc z => if z ∈ acc then acc else acc ++ [z]) acc ↔ x ∈ acc ∨ x ∈ zs := by
  induction zs with
  | nil => intro acc h; exact ⟨h, fun x => by simp⟩
  | cons z zs ih =>
    intro acc h
    rw [List.foldl_cons]
    by_cases hz : z ∈ acc
    · rw [if_pos hz]
      obtain ⟨h1, h2⟩ := ih acc h
      refine ⟨h1, fun x => ?_⟩
      rw [h2 x, List.mem_cons]
      constructor
      · rintro (q | q)
        · exact .inl q
        · exact .inr (.inr q)
      · rintro (q | q | q)
        · exact .inl q
        · exact .inl (q ▸ hz)
        · exact .inr q
    · rw [if_neg hz]
      have hn : (acc ++ [z]).Nodup := List.nodup_append.mpr ⟨h, by simp, fun a ha b hb e => hz (by rw [List.mem_singleton] at hb; rw [← hb, ← e]; exact ha)⟩
      obtain ⟨h1, h2⟩ := ih (acc ++ [z]) hn
      refine ⟨h1, fun x => ?_⟩
      rw [h2 x, List.mem_append, List.mem_singleton, List.mem_cons]
      constructor
      · rintro ((q | q) | q)
        · exact .inl q
        · exact .inr (.inl q)
        · exact .inr (.inr q)
      · rintro (q | q | q)
        · exact .inl (.inl q)
        · exact .inl (.inr q)
        · exact .inr q
theorem uniq_nodup (zs : List Str) : (uniq zs).Nodup := (uniq_spec zs [] List.nodup_nil).1
theorem mem_uniq (zs : List Str) (x : Str) : x ∈ uniq zs ↔ x ∈ zs := by
  have h := (uniq_spec zs [] List.nodup_nil).2 x
  have e : x ∈ uniq zs ↔ x ∈ ([] : List Str) ∨ x ∈ zs := h
  simpa using e
def ord (zs : List Str) : List Str := (uniq zs).mergeSort leW
theorem mem_ord {zs : List Str} {x : Str} : x ∈ ord zs ↔ x ∈ zs := by
  unfold ord
  rw [List.mem_mergeSort, mem_uniq]
theorem ord_sorted (zs : List Str) : (ord zs).Pairwise ahead := by
  have h1 : (ord zs).Pairwise fun a b => leW a b = true := by
    refine List.pairwise_mergeSort (fun a b c h h' => ?_) (fun a b => ?_) _
    · simp only [leW, Bool.not_eq_true', decide_eq_false_iff_not] at *
      intro q
      rcases ahead_total b c with z | z | z
      · exact h (ahead_trans z q)
      · exact h (z ▸ q)
      · exact h' z
    · simp only [leW, Bool.or_eq_true, Bool.not_eq_true', decide_eq_false_iff_not]
      by_cases q : ahead b a
      · exact .inr fun q' => ahead_irrefl _ (ahead_trans q q')
      · exact .inl q
  have h2 : (ord zs).Nodup := (List.mergeSort_perm _ _).nodup_iff.mpr (uniq_nodup zs)
  have h2' : (ord zs).Pairwise fun a b => a ≠ b := h2
  refine List.Pairwise.imp₂ (fun a b h h' => ?_) h1 h2'
  simp only [leW, Bool.not_eq_true', decide_eq_false_iff_not] at h
  rcases ahead_total a b with z | z | z
  · exact z
  · exact absurd z h'
  · exact absurd z h
/-- only one list ascends and has these members -/
theorem sorted_one : ∀ {xs ys : List Str}, xs.Pairwise ahead → ys.Pairwise ahead → (∀ z, z ∈ xs ↔ z ∈ ys) → xs = ys
  | [], [], _, _, _ => rfl
  | [], y :: ys, _, _, h => absurd ((h y).mpr List.mem_cons_self) (by simp)
  | x :: xs, [], _, _, h => absurd ((h x).mp List.mem_cons_self) (by simp)
  | x :: xs, y :: ys, hx, hy, h => by
    rw [List.pairwise_cons] at hx hy
    have e : x = y := by
      rcases ahead_total x y with z | z | z
      · have := (h x).mp List.mem_cons_self
        rcases List.mem_cons.mp this with q | q
        · exact q
        · exact absurd (ahead_trans z (hy.1 x q)) (ahead_irrefl _)
      · exact z
      · have := (h y).mpr List.mem_cons_self
        rcases List.mem_cons.mp this with q | q
        · exact q.symm
        · exact absurd (ahead_trans z (hx.1 y q)) (ahead_irrefl _)
    subst e
    congr 1
    refine sorted_one hx.2 hy.2 fun z => ?_
    have hz := h z
    rw [List.mem_cons, List.mem_cons] at hz
    constructor
    · intro q
      rcases hz.mp (.inr q) with e | e
      · exact absurd (e ▸ hx.1 z q) (ahead_irrefl _)
      · exact e
    · intro q
      rcases hz.mpr (.inr q) with e | e
      · exact absurd (e ▸ hy.1 z q) (ahead_irrefl _)
      · exact e
theorem ord_eq {xs ys : List Str} (h : ∀ z, z ∈ xs ↔ z ∈ ys) : ord xs = ord ys := sorted_one (ord_sorted _) (ord_sorted _) fun z => by rw [mem_ord, mem_ord]; exact h z
theorem ord_of {xs : List Str} (h : xs.Pairwise ahead) : ord xs = xs := sorted_one (ord_sorted _) h fun z => mem_ord
theorem ord_ord (xs : List Str) : ord (ord xs) = ord xs := ord_of (ord_sorted xs)
theorem ord_reverse (xs : List Str) : ord xs.reverse = ord xs := ord_eq fun z => List.mem_reverse
theorem ord_length (zs : List Str) : (ord zs).length ≤ zs.length := by
  unfold ord
  rw [List.length_mergeSort]
  have h : ∀ (zs acc : List Str), (zs.foldl (fun acc z => if z ∈ acc then acc else acc ++ [z]) acc).length ≤ acc.length + zs.length := by
    intro zs
    induction zs with
    | nil => intro acc; simp
    | cons z zs ih =>
      intro acc
      rw [List.foldl_cons, List.length_cons]
      have := ih (if z ∈ acc then acc else acc ++ [z])
      split at this
      · rename_i q; rw [if_pos q]; omega
      · rename_i q; rw [if_neg q]; rw [List.length_append, List.length_singleton] at this; omega
  simpa [uniq] using h zs []
theorem dataLe_rank : PySem.W.dataLe false (fun z : Str => PyData.tuple [.int z.length, .str z]) = leW := by
  funext a b
  show (!PySem.W.dataLt (.tuple [.int b.length, .str b]) (.tuple [.int a.length, .str a])) = _
  rw [PySem.W.dataLt_pair (by simp [PySem.W.alike]) (by simp [PySem.W.alike]), PySem.W.dataLt_int, PySem.W.dataLt_str]
  simp only [PyData.eqv, leW, ahead, beq_iff_eq]
  congr 1
  by_cases h1 : (b.length : Int) = a.length
  · have e : b.length = a.length := by omega
    have nl : ¬ b.length < a.length := by omega
    rw [if_pos h1]
    by_cases h2 : b = a
    · subst h2
      rw [if_pos rfl]
      exact (decide_eq_false (fun q => ahead_irrefl b q)).symm
    · rw [if_neg h2]
      simp [e]
  · have e : b.length ≠ a.length := by omega
    rw [if_neg h1]
    simp only [e, false_and, or_false]
    congr 1
    exact propext ⟨fun q => by omega, fun q => by omega⟩
end MN
/-! the defs about words -/
namespace MN
open PySem PySem.Spec PyProof.Rows L2
theorem str_one {z : Str} (h : z.length = 1) : ∃ c, z = ⟨#[c]⟩ := by
  obtain ⟨⟨l⟩⟩ := z
  match l, h with
  | [c], _ => exact ⟨c, rfl⟩
/-- a value: a text, or one of a kind that is no text -/
def ValOk (K : PySem.W.Frag) (H : Hp) (v : V) : Prop := (∃ z : Str, v = .str z ∧ z.length ≤ 100000) ∨ ((∀ z, v ≠ .str z) ∧ IsX K H v "str" false)
theorem ValOk.str {K : PySem.W.Frag} {H : Hp} {z : Str} (h : z.length ≤ 100000) : ValOk K H (.str z) := .inl ⟨z, rfl, h⟩
def sgn (c : Nat) : Bool := decide (c ∈ ("abcde" : Str).cps.toList)
def isWordS (z : Str) : Bool := z.cps.toList.all sgn
def isWord : V → Bool
  | .str z => isWordS z
  | _ => false
def isSign : V → Bool
  | .str z => decide (z.length = 1) && isWordS z
  | _ => false
theorem isWord_no {v : V} (h : ∀ z, v ≠ .str z) : isWord v = false := by
  cases v with
  | str z => exact absurd rfl (h z)
  | _ => rfl
theorem isSign_no {v : V} (h : ∀ z, v ≠ .str z) : isSign v = false := by
  cases v with
  | str z => exact absurd rfl (h z)
  | _ => rfl
section
variable {P : Program} {w : World} {K : PySem.W.Frag} {mg : Str → Option Value} {base : Heap}
/-! ### is_sign -/
def spIsSign (K : PySem.W.Frag) : Sp := fun vs H Q _ => ∃ v, vs = [v] ∧ ValOk K H v ∧ Q (.bl (isSign v)) H
theorem sc_is_sign : FnScope ["value"] ["value"] (defScope (top 11)) := ⟨rfl, rfl, rfl, by decide +kernel, rfl, by decide +kernel, by decide +kernel⟩
theorem c_is_sign (A : At K mg "is_sign" (top 11)) (B : Blt mg) : Cal P w K mg base 1 "is_sign" (spIsSign K) := by
  refine cal_of A sc_is_sign (fun _ _ _ _ _ _ us hl => match us, hl with | [_], _ => rfl) (fun vs H Q E h => ?_) (fun f cdv A outer s H vs Q E hr h => ?_)
  · obtain ⟨v, rfl, _⟩ := h; rfl
  · obtain ⟨v, rfl, hv, hQ⟩ := h
    refine ⟨_, pss_one (ps_ret (pe_and (pe_callB call_isS (by rfl) B.isinstance (by decide +kernel) (pa_cons (pv 0) (pa_cons (pe_bltn (v := .ty "str") (by rfl) B.str (by decide +kernel) rfl) pa_nil)))
      (pe_and (pe_cmpR op_eq (pe_callB call_len_str (by rfl) B.len PySem.boot_len (pa_cons (pv 0) pa_nil)) pe_int (nomark _))
        (pe_one (pe_cmpR op_in_sign (pv 0) (pe_gl (by rfl) B.SIGNS) (by rfl)))))), ?_⟩
    rcases hv with ⟨z, rfl, hz⟩ | ⟨hn, hk⟩
    · refine ⟨_, rfl, .str z, "str", true, rfl, .str, true, rfl, iteT ?_⟩
      refine ⟨_, rfl, z, rfl, Nat.le_trans hz (by decide), rfl, _, rfl, ?_⟩
      by_cases h1 : z.length = 1
      · obtain ⟨c, rfl⟩ : ∃ c, z = ⟨#[c]⟩ := str_one h1
        rw [show decide (V.int ((⟨#[c]⟩ : Str).length : Int) = V.int 1) = true from rfl]
        refine iteT ⟨_, rfl, c, _, rfl, rfl, ?_⟩
        have e : isSign (.str ⟨#[c]⟩) = decide (c ∈ ("abcde" : Str).cps.toList) := by simp [isSign, isWordS, Str.length, sgn]
        rw [← e]; exact hQ
      · have e0 : decide (V.int (z.length : Int) = V.int 1) = false := decide_eq_false (fun q => h1 (by injection q with q; omega))
        rw [e0]
        have e : isSign (.str z) = false := by simp [isSign, h1]
        rw [e] at hQ
        exact iteF hQ
    · refine ⟨_, rfl, v, "str", false, rfl, hk, false, rfl, iteF ?_⟩
      rw [isSign_no hn] at hQ
      exact hQ
/-! ### is_word -/
def spIsWord (K : PySem.W.Frag) : Sp := fun vs H Q _ => ∃ v, vs = [v] ∧ ValOk K H v ∧ ∀ H', Same H H' → Q (.bl (isWord v)) H'
abbrev N_is_word : List Str := ["value", "sign"]
end
end MN
/-! the defs about numbers -/
namespace MN
open PySem PySem.Spec PyProof.Rows L2
def big : Int := 10 ^ 60
def isInt (n : Int) : Bool := decide (-big < n) && decide (n < big)
theorem isInt_of {n : Int} (h1 : -1000000 ≤ n) (h2 : n ≤ 1000000) : isInt n = true := by
  have : (1000000 : Int) < big := by decide +kernel
  unfold isInt
  rw [decide_eq_true (by omega), decide_eq_true (by omega)]
  rfl
section
variable {P : Program} {w : World} {K : PySem.W.Frag} {mg : Str → Option Value} {base : Heap}
def spIsInt (K : PySem.W.Frag) : Sp := fun vs H Q _ => ∃ v, vs = [v] ∧ ((∃ n, v = .int n ∧ Q (.bl (isInt n)) H) ∨ (∃ b, v = .bl b ∧ Q (.bl false) H) ∨ (IsX K H v "int" false ∧ Q (.bl false) H))
theorem sc_is_integer : FnScope ["value"] ["value"] (defScope (top 10)) := ⟨rfl, rfl, rfl, by decide +kernel, rfl, by decide +kernel, by decide +kernel⟩
theorem c_is_integer (A : At K mg "is_integer" (top 10)) (B : Blt mg) (G : GlC mg "GREATEST" (.int big)) : Cal P w K mg base 1 "is_integer" (spIsInt K) := by
  refine cal_of A sc_is_integer (fun _ _ _ _ _ _ us hl => match us, hl with | [_], _ => rfl) (fun vs H Q E h => ?_) (fun f cdv A outer s H vs Q E hr h => ?_)
  · obtain ⟨v, rfl, _⟩ := h; rfl
  · obtain ⟨v, rfl, hQ⟩ := h
    refine ⟨_, (pss_one (ps_ret (pe_and (pe_callB call_isS (by rfl) B.isinstance (by decide +kernel) (pa_cons (pv 0) (pa_cons (pe_bltn (v := .ty "int") (by rfl) B.int (by decide +kernel) rfl) pa_nil))) (pe_and (pe_not (pe_callB call_isS (by rfl) B.isinstance (by decide +kernel) (pa_cons (pv 0) (pa_cons (pe_bltn (v := .ty "bool") (by rfl) B.bool (by decide +kernel) rfl) pa_nil)))) (pe_one (pe_chain op_lt op_lt (pe_un un_neg (pe_gl (by rfl) G)) (pv 0) (pe_gl (by rfl) G))))))), ?_⟩
    rcases hQ with ⟨n, rfl, hQ⟩ | ⟨b, rfl, hQ⟩ | ⟨hi, hQ⟩
    · refine ⟨_, rfl, _, _, true, rfl, .ty (.base (.int n)) (by decide +kernel), _, rfl, iteT ?_⟩
      refine ⟨_, rfl, _, _, false, rfl, .ty (.base (.int n)) (by decide +kernel), _, rfl, _, rfl, iteT ?_⟩
      refine ⟨_, rfl, _, rfl, _, _, rfl, rfl, _, rfl, ?_⟩
      by_cases h1 : -big < n
      · rw [decide_eq_true h1]
        refine iteT ⟨_, _, rfl, rfl, ?_⟩
        unfold isInt at hQ
        rw [decide_eq_true h1] at hQ
        exact hQ
      · rw [decide_eq_false h1]
        unfold isInt at hQ
        rw [decide_eq_false h1] at hQ
        exact iteF hQ
    · refine ⟨_, rfl, _, _, true, rfl, .ty (.base (.bl b)) (by decide +kernel), _, rfl, iteT ?_⟩
      exact ⟨_, rfl, _, _, true, rfl, .ty (.base (.bl b)) (by decide +kernel), _, rfl, _, rfl, iteF hQ⟩
    · exact ⟨_, rfl, _, _, false, rfl, hi, _, rfl, iteF hQ⟩
end
end MN
/-! require_number -/
namespace MN
open PySem PySem.Spec PyProof.Rows L2
section
variable {P : Program} {w : World} {K : PySem.W.Frag} {mg : Str → Option Value} {base : Heap}
/-- a number within its bounds -/
def spReqNumber : Sp := fun vs H Q _ => ∃ n lo hi, vs = [.int n, .int lo, .int hi] ∧ isInt n = true ∧ lo ≤ n ∧ n ≤ hi ∧ Q .non H
theorem sc_require_number : FnScope ["value", "low", "high"] ["value", "low", "high"] (defScope (top 12)) := ⟨rfl, rfl, rfl, by decide +kernel, rfl, by decide +kernel, by decide +kernel⟩
theorem c_require_number (A : At K mg "require_number" (top 12)) (c_is_integer : Cal P w K mg base 1 "is_integer" (spIsInt K)) : Cal P w K mg base 2 "require_number" spReqNumber := by
  refine cal_of A sc_require_number (fun _ _ _ _ _ _ us hl => match us, hl with | [_, _, _], _ => rfl) (fun vs H Q E h => ?_) (fun f cdv A outer s H vs Q E hr h => ?_)
  · obtain ⟨n, lo, hi, rfl, _⟩ := h; rfl
  · obtain ⟨n, lo, hi, rfl, hn, h1, h2, hQ⟩ := h
    refine ⟨_, (pss_one (ps_if (PW.pt (pw_or (pt_not (pt_val (pe_c c_is_integer hr (by decide) (by rfl) (pa_cons (pv 0) pa_nil)))) (pw_or1 (pt_not (pt_chain op_le op_le (pv 1) (pv 0) (pv 2))))))
      (pss_one ps_never)
      pss_nil)), ?_⟩
    refine ⟨_, rfl, _, rfl, .inl ⟨n, rfl, _, rfl, ?_⟩⟩
    rw [hn]
    refine iteF ⟨_, rfl, _, rfl, _, _, rfl, rfl, _, rfl, ?_⟩
    rw [decide_eq_true h1]
    refine iteT ⟨_, rfl, _, _, rfl, rfl, _, rfl, ?_⟩
    rw [decide_eq_true h2]
    exact iteF hQ
end
end MN
/-! is_price -/
namespace MN
open PySem PySem.Spec PyProof.Rows L2
section
variable {P : Program} {w : World} {K : PySem.W.Frag} {mg : Str → Option Value} {base : Heap}
/-- prices: whole numbers -/
def spIsPrice (K : PySem.W.Frag) : Sp := fun vs H Q _ => ∃ v m, vs = [v, .int m] ∧ ((∃ n, v = .int n ∧ Q (.bl (isInt n && (decide (1 ≤ n) && decide (n ≤ m)))) H) ∨ (∃ b, v = .bl b ∧ Q (.bl false) H) ∨ (IsX K H v "int" false ∧ Q (.bl false) H))
theorem sc_is_price : FnScope ["value", "most"] ["value", "most"] (defScope (top 19)) := ⟨rfl, rfl, rfl, by decide +kernel, rfl, by decide +kernel, by decide +kernel⟩
theorem c_is_price (A : At K mg "is_price" (top 19)) (c_is_integer : Cal P w K mg base 1 "is_integer" (spIsInt K)) : Cal P w K mg base 2 "is_price" (spIsPrice K) := by
  refine cal_of A sc_is_price (fun _ _ _ _ _ _ us hl => match us, hl with | [_, _], _ => rfl) (fun vs H Q E h => ?_) (fun f cdv A outer s H vs Q E hr h => ?_)
  · obtain ⟨v, m, rfl, _⟩ := h; rfl
  · obtain ⟨v, m, rfl, hQ⟩ := h
    refine ⟨_, (pss_one (ps_ret (pe_and (pe_c c_is_integer hr (by decide) (by rfl) (pa_cons (pv 0) pa_nil)) (pe_one (pe_chain op_le op_le pe_int (pv 0) (pv 1)))))), ?_⟩
    refine ⟨_, rfl, _, rfl, ?_⟩
    rcases hQ with ⟨n, rfl, hQ⟩ | ⟨b, rfl, hQ⟩ | ⟨hi, hQ⟩
    · refine .inl ⟨n, rfl, _, rfl, ?_⟩
      cases hn : isInt n with
      | false => rw [hn] at hQ; exact iteF hQ
      | true =>
        rw [hn] at hQ
        refine iteT ⟨_, rfl, _, _, rfl, rfl, _, rfl, ?_⟩
        by_cases h1 : 1 ≤ n
        · rw [decide_eq_true h1] at hQ ⊢
          exact iteT ⟨_, rfl, _, _, rfl, rfl, hQ⟩
        · rw [decide_eq_false h1] at hQ ⊢
          exact iteF hQ
    · exact .inr (.inl ⟨b, rfl, _, rfl, iteF hQ⟩)
    · exact .inr (.inr ⟨hi, _, rfl, iteF hQ⟩)
end
end MN
/-! dict comprehensions with one and with two clauses, keys of any kind that a tracked dict knows -/
namespace MN
open PySem PySem.Spec PyProof.Rows L2
theorem d_setP {X : Cx} {pins : List (Addr × Obj)} {σ : L2.St} {H H' : Hp} {s : Shared} {E : Value → Shared → Prop} {D : Addr} {y v : V} {u r : Value} {Q : Unit → Shared → Prop} (hu : X.A.units + 1 < cLine) (I : Inv X pins σ H s) (g : DPut H D y v H')
    (ry : RelV y u) (rv : RelV v r) (h : ∀ s', Inv X pins σ H' s' → Q () s') : wpAny (model X.prog X.w) X.A (dictSet D u r) Q E s := by
  rcases g with ⟨kvs, k, e, ey, l, eH⟩ | ⟨kvs, k, b, e, ey, eb, l, eH⟩
  · subst ey eH
    exact d_dictSet I e l ry rv h
  · subst ey eH
    cases (show u = Value.ref b from ry)
    obtain ⟨z, hd, xs, rel, dd⟩ := dt_of I.hok e
    have hz : xs.length ≤ sizeLine := by rw [← Paired.length rel]; exact z
    have hl : (putK kvs k v).length ≤ sizeLine := by have := length_putK kvs k v; omega
    refine wpAny_dictSet_heap (hsz := hz) (show X.A.units < cLine by omega) (key_of I.hok eb) dd fun h' dd' hs => h _ ?_
    obtain ⟨q, es, ep, hq, h2, h3, h4, _, h5⟩ := dd'
    refine d_write I (by rw [e]; exact True.intro) hs ⟨q, hq⟩ ⟨hl, hd, _, (rel.put k eb rv).keeps fun c ys ec => ?_, q, es, ep, hq, h2, h3, h4, h5⟩
    rw [upd_ne (ne_of ec e (fun z => nomatch z))]
    exact ec
theorem turn2_out (kx vx t0 i0 t1 i1 : Expr) (ifs0 ifs1 : List Expr) (scope : Scope) (pos : Pos) (it acc : Value) (env : Env) :
    compTurn (.DictComp kx vx [⟨t0, i0, ifs0, 0⟩, ⟨t1, i1, ifs1, 0⟩] scope pos) 0 it acc env = (do
      standAt i0.pos
      match ← pyNext it with
      | none => pure (.done .next)
      | some v =>
        letOwnedTupleGo t0 it v
        assign t0 env v
        let mut ok := true
        for c in ifs0 do
          if ok then ok ← isTrue c env (eval c env)
        if ok then
          let x ← eval i1 env
          standAt i1.pos
          let x ← foldedSetIterable i1 env x
          let _ ← runOwn (.compStart (.DictComp kx vx [⟨t0, i0, ifs0, 0⟩, ⟨t1, i1, ifs1, 0⟩] scope pos) 1 (← holding [x] (pyIter x)) acc env) env
        again (.compLoop (.DictComp kx vx [⟨t0, i0, ifs0, 0⟩, ⟨t1, i1, ifs1, 0⟩] scope pos) 0 it acc env)) := by rfl
theorem turn2_in (kx vx t0 i0 t1 i1 : Expr) (ifs0 ifs1 : List Expr) (scope : Scope) (pos : Pos) (it : Value) (D : Addr) (env : Env) :
    compTurn (.DictComp kx vx [⟨t0, i0, ifs0, 0⟩, ⟨t1, i1, ifs1, 0⟩] scope pos) 1 it (.ref D) env = (do
      standAt i1.pos
      match ← pyNext it with
      | none => pure (.done .next)
      | some v =>
        letOwnedTupleGo t1 it v
        assign t1 env v
        let mut ok := true
        for c in ifs1 do
          if ok then ok ← isTrue c env (eval c env)
        if ok then
          (do
            let kv ← eval kx env
            let vv ← holding [kv] (eval vx env)
            standAt { kx.pos with endLine := vx.pos.endLine, endCol := vx.pos.endCol }
            holding [kv, vv] (dictSet D kv vv))
        again (.compLoop (.DictComp kx vx [⟨t0, i0, ifs0, 0⟩, ⟨t1, i1, ifs1, 0⟩] scope pos) 1 it (.ref D) env)) := by rfl
section
variable {prog : Program} {w : World} {A : Around} {R : Result → Shared → Prop} {s : Shared} {kx vx t0 i0 t1 i1 : Expr} {ifs0 ifs1 : List Expr} {scope : Scope} {pos : Pos} {it acc : Value} {D : Addr} {env : Env}
theorem loop2_out (hs : ∀ x, foldedSetIterable i1 env x = pure x) (I : Nat → Shared → Prop)
    (turn : ∀ n s, I n s → wpAny (model prog w) A (pyNext it) (fun r s₁ => match r with
      | none => R (.ok .next) s₁
      | some v => wpAny (model prog w) A (letOwnedTupleGo t0 it v) (fun _ s₂ => wpAny (model prog w) A (assign t0 env v) (fun _ s₃ => wpAny (model prog w) A (forIn ifs0 true fun c r => if r = true then do let ok ← isTrue c env (eval c env); pure (ForInStep.yield ok) else pure (ForInStep.yield r)) (fun ok s₄ =>
          if ok = true then wpAny (model prog w) A (eval i1 env) (fun x s₅ => wpAny (model prog w) A (pyIter x) (fun j s₆ =>
            codeAny (model prog w) A (.compStart (.DictComp kx vx [⟨t0, i0, ifs0, 0⟩, ⟨t1, i1, ifs1, 0⟩] scope pos) 1 j acc env) (fun r s' => match r with
              | .ok _ => ∃ m, m < n ∧ I m s'
              | .error _ => False) s₆) (notedBy (model prog w) A env fun e s' => R (.error e) s') s₅) (notedBy (model prog w) A env fun e s' => R (.error e) s') s₄
          else ∃ m, m < n ∧ I m s₄) (notedBy (model prog w) A env fun e s' => R (.error e) s') s₃) (notedBy (model prog w) A env fun e s' => R (.error e) s') s₂) (notedBy (model prog w) A env fun e s' => R (.error e) s') s₁) (notedBy (model prog w) A env fun e s' => R (.error e) s') s)
    (n : Nat) (h : I n s) : codeAny (model prog w) A (.compLoop (.DictComp kx vx [⟨t0, i0, ifs0, 0⟩, ⟨t1, i1, ifs1, 0⟩] scope pos) 0 it acc env) R s := by
  refine codeAny_loop rfl I (fun n s hI => ?_) n h
  show wpAny _ A ((compTurn (.DictComp kx vx [⟨t0, i0, ifs0, 0⟩, ⟨t1, i1, ifs1, 0⟩] scope pos) 0 it acc env).onRaise (fun x => do noteFrame x env; theTreesLotGoes x)) _ _ s
  refine wpAny_noted ?_
  rw [turn2_out]
  refine wpAny_bind (wpAny_standAt (wpAny_bind (wpAny_mono (turn n s hI) (fun r s₁ h₁ => ?_) fun _ _ z => z)))
  match r, h₁ with
  | none, h₁ => exact wpAny_pure h₁
  | some v, h₁ =>
    refine wpAny_bind (wpAny_mono h₁ (fun _ s₂ h₂ => wpAny_bind (wpAny_mono h₂ (fun _ s₃ h₃ => wpAny_bind (wpAny_mono h₃ (fun ok s₄ h₄ => ?_) fun _ _ z => z)) fun _ _ z => z)) fun _ _ z => z)
    cases ok with
    | false => exact wpAny_pure ⟨rfl, h₄⟩
    | true =>
      refine wpAny_bind (wpAny_mono h₄ (fun x s₅ h₅ => ?_) fun _ _ z => z)
      refine wpAny_bind (wpAny_standAt (wpAny_bind (wpAny_of_eq (hs x) (wpAny_bind (wpAny_holding (wpAny_mono h₅ (fun j s₆ h₆ => ?_) fun _ _ z => z))))))
      refine wpAny_bind (wpAny_runOwn ?_)
      rw [Around.mark_none]
      refine codeAny_mono h₆ fun r s' hr => ?_
      match r, hr with
      | .ok f, hr =>
        first
          | exact wpAny_pure ⟨rfl, hr⟩
          | exact wpAny_bind (wpAny_pure (wpAny_pure ⟨rfl, hr⟩))
      | .error e, hr => exact hr.elim
theorem loop2_in (I : Nat → Shared → Prop)
    (turn : ∀ n s, I n s → wpAny (model prog w) A (pyNext it) (fun r s₁ => match r with
      | none => R (.ok .next) s₁
      | some v => wpAny (model prog w) A (letOwnedTupleGo t1 it v) (fun _ s₂ => wpAny (model prog w) A (assign t1 env v) (fun _ s₃ => wpAny (model prog w) A (forIn ifs1 true fun c r => if r = true then do let ok ← isTrue c env (eval c env); pure (ForInStep.yield ok) else pure (ForInStep.yield r)) (fun ok s₄ =>
          if ok = true then wpAny (model prog w) A (eval kx env) (fun kv s₅ => wpAny (model prog w) A (eval vx env) (fun vv s₆ => wpAny (model prog w) A (dictSet D kv vv) (fun _ s₇ => ∃ m, m < n ∧ I m s₇) (notedBy (model prog w) A env fun e s' => R (.error e) s') s₆) (notedBy (model prog w) A env fun e s' => R (.error e) s') s₅) (notedBy (model prog w) A env fun e s' => R (.error e) s') s₄
          else ∃ m, m < n ∧ I m s₄) (notedBy (model prog w) A env fun e s' => R (.error e) s') s₃) (notedBy (model prog w) A env fun e s' => R (.error e) s') s₂) (notedBy (model prog w) A env fun e s' => R (.error e) s') s₁) (notedBy (model prog w) A env fun e s' => R (.error e) s') s)
    (n : Nat) (h : I n s) : codeAny (model prog w) A (.compLoop (.DictComp kx vx [⟨t0, i0, ifs0, 0⟩, ⟨t1, i1, ifs1, 0⟩] scope pos) 1 it (.ref D) env) R s := by
  refine codeAny_loop rfl I (fun n s hI => ?_) n h
  show wpAny _ A ((compTurn (.DictComp kx vx [⟨t0, i0, ifs0, 0⟩, ⟨t1, i1, ifs1, 0⟩] scope pos) 1 it (.ref D) env).onRaise (fun x => do noteFrame x env; theTreesLotGoes x)) _ _ s
  refine wpAny_noted ?_
  rw [turn2_in]
  refine wpAny_bind (wpAny_standAt (wpAny_bind (wpAny_mono (turn n s hI) (fun r s₁ h₁ => ?_) fun _ _ z => z)))
  match r, h₁ with
  | none, h₁ => exact wpAny_pure h₁
  | some v, h₁ =>
    refine wpAny_bind (wpAny_mono h₁ (fun _ s₂ h₂ => wpAny_bind (wpAny_mono h₂ (fun _ s₃ h₃ => wpAny_bind (wpAny_mono h₃ (fun ok s₄ h₄ => ?_) fun _ _ z => z)) fun _ _ z => z)) fun _ _ z => z)
    cases ok with
    | false => exact wpAny_pure ⟨rfl, h₄⟩
    | true =>
      exact wpAny_bind (wpAny_bind (wpAny_mono h₄ (fun kv s₅ h₅ => wpAny_bind (wpAny_holding (wpAny_mono h₅ (fun vv s₆ h₆ => wpAny_bind (wpAny_standAt (wpAny_holding (wpAny_mono h₆ (fun _ s₇ h₇ => wpAny_pure ⟨rfl, h₇⟩) fun _ _ z => z)))) fun _ _ z => z))) fun _ _ z => z))
theorem start2 (h0 : codeAny (model prog w) A (.compLoop (.DictComp kx vx [⟨t0, i0, ifs0, 0⟩, ⟨t1, i1, ifs1, 0⟩] scope pos) 1 it acc env) R s)
    (h : wpAny (model prog w) A (pyIter it) (fun j s' => codeAny (model prog w) A (.compLoop (.DictComp kx vx [⟨t0, i0, ifs0, 0⟩, ⟨t1, i1, ifs1, 0⟩] scope pos) 1 j acc env) R s') (notedBy (model prog w) A env fun x s' => R (.error x) s') s) :
    codeAny (model prog w) A (.compStart (.DictComp kx vx [⟨t0, i0, ifs0, 0⟩, ⟨t1, i1, ifs1, 0⟩] scope pos) 1 it acc env) R s := by
  refine codeAny_of_tree ?_
  show wpAny _ _ ((compStart (.DictComp kx vx [⟨t0, i0, ifs0, 0⟩, ⟨t1, i1, ifs1, 0⟩] scope pos) 1 it acc env).onRaise (fun x => do noteFrame x env; standAt theWindowsPlace)) _ _ s
  refine wpAny_notedAt ?_
  unfold compStart
  show wpAny _ _ (ask >>= _) _ _ s
  refine wpAny_bind (wpAny_askSetting (wpAny_ite ?_))
  split
  · first
      | exact wpAny_bind (wpAny_pure (wpAny_pure (And.intro rfl h0)))
      | exact wpAny_pure (And.intro rfl h0)
  · first
      | exact wpAny_bind (wpAny_rule (wpAny_bind (wpAny_standAt (wpAny_bind (wpAny_mono h (fun j s' z => wpAny_pure (And.intro rfl z)) fun _ _ z => z)))))
      | (refine wpAny_bind (wpAny_rule ?_); show wpAny _ _ (standAt i1.pos >>= _) _ _ s; exact wpAny_bind (wpAny_standAt (wpAny_bind (wpAny_mono h (fun j s' z => wpAny_pure (And.intro rfl z)) fun _ _ z => z))))
end
section
variable {X : Cx}
def tDp1 (o0 : HO) (wi : TI) (g : TG) (tt : TT) (tk tv : TE) (vs : List Nat) : TE := fun σ H Q => wi σ H fun J H1 => ∀ D, H1 D = none → ∃ W : Nat → Nat → Hp → Prop, (∃ m, W 0 m (upd H1 D o0)) ∧ ∀ i m H, W i m H →
  (J.stop i H ∧ Q (.ref D) H) ∨ (J.go i H ∧ ∃ Nx : Hp → Prop, (∀ H', Nx H' → ∃ m', m' < m ∧ W (i + 1) m' H') ∧ ∀ x H', J.yld i H x H' → g x (wipe σ vs) H' fun σ2 H2 => wipe σ2 vs = wipe σ vs ∧ tt σ2 H2 fun b H3 =>
    if b = true then tk σ2 H3 fun y H4 => tv σ2 H4 fun z H5 => ∃ H6, DPut H5 D y z H6 ∧ Nx H6 else Nx H3)
theorem dp1_core {pins : List (Addr × Obj)} {s : Shared} {σ : L2.St} {H : Hp} {Q : VK} {use : Option (Value → Sem Unit)} {Qf : Value → Shared → Prop} {pos' : Pos} {kx vx tg iter : Expr} {ifs : List Expr} {scope : Scope} {own : List (Str × Nat)} {pos : Pos} {o0 : HO} {wi : TI} {g : TG} {tt : TT} {tk tv : TE} (hc : X.calm = true) (hu : X.A.units + 1 < cLine) (hN : X.N.Nodup) (I : Inv X pins σ H s) (hi : PI X tg iter wi) (ok : BlkOk X.N X.env.scope scope own)
    (hg : ∀ (s : Shared) (H : Hp) (C : Addr) (cl : List (Str × Addr)) (fp : List Addr), PG (X.blk s H scope (compEnvC scope cl C X.env) fp) tg g) (ht : ∀ (s : Shared) (H : Hp) (C : Addr) (cl : List (Str × Addr)) (fp : List Addr), PTs (X.blk s H scope (compEnvC scope cl C X.env) fp) ifs tt)
    (hk : ∀ (s : Shared) (H : Hp) (C : Addr) (cl : List (Str × Addr)) (fp : List Addr), PE (X.blk s H scope (compEnvC scope cl C X.env) fp) kx tk) (he : ∀ (s : Shared) (H : Hp) (C : Addr) (cl : List (Str × Addr)) (fp : List Addr), PE (X.blk s H scope (compEnvC scope cl C X.env) fp) vx tv)
    (ho : o0 = .dK [] ∨ o0 = .dT []) (hs : ∀ x, foldedSetIterable iter X.env x = pure x)
    (h : tDp1 o0 wi g tt tk tv (own.map (·.2)) σ H Q)
    (hRR : ∀ D C s' m H', Inv X pins σ H' s' → Q (.ref D) H' → s'.heap.Ns C m → FpOk X pins H' C → compPost (model X.prog X.w) X.A X.xe use Qf (.ref D) C (.ok .next) s') :
    wpAny (model X.prog X.w) X.A (comprehension (.DictComp kx vx [⟨tg, iter, ifs, 0⟩] scope pos) scope X.env pos' newDict false (eval iter X.env) use) Qf X.xe s := by
  have hfree : ∀ y ∈ scope.names, y.2 = .free → ∃ c, X.env.cells.lookup y.1 = some c := fun y hy e => I.ok.has _ (ok.free y hy e)
  refine wpAny_comprehension_free (use := use) rfl hs (closure_ok hfree) ok.kind (fun y hy e => by rw [ok.uniq y hy, e]) (thn (hi.run pins s σ H _ I h) fun xv s1 hx => thn hx fun itv s2 h2 => ?_)
  obtain ⟨it, fp, tn, J, H2, e, I2, T, st2, f2, q⟩ := h2
  subst e
  refine wpAny_newObj_type (newEnv_comp ?_)
  generalize hD : s2.heap.objs.size = D
  obtain ⟨W, ⟨m0, w0⟩, turn⟩ := q D (I2.hok.fresh (Nat.le_of_eq hD))
  generalize hs3 : ({ s2 with heap := s2.heap.push { cls := .type "dict", data := .dict #[] } } : Shared) = s3
  have h3 : s3.heap = s2.heap.push { cls := .type "dict", data := .dict #[] } := by rw [← hs3]
  have I3 : Inv X pins σ (upd H2 D o0) s3 := by
    rw [← hs3]
    refine I2.laid (t' := s2.toks) (fun b o e => Heap.get?_push_of_some _ e) (Nat.le_of_eq hD) ?_
    rw [← hD]
    rcases ho with z | z
    · rw [z]; exact dk_empty s2.heap I2.big
    · rw [z]; exact dt_empty s2.heap I2.big
  have f3 : ∀ b ∈ fp, FpOk X pins (upd H2 D o0) b ∧ b < s3.heap.objs.size := fun b hb => by
    obtain ⟨o, e, _⟩ := T.obj _ _ st2 b hb
    have hlt := Heap.lt_size e
    refine ⟨⟨?_, (f2 b hb).2⟩, by rw [h3, Heap.size_push]; exact Nat.lt_succ_of_lt hlt⟩
    rw [upd_ne (by rw [← hD]; exact Nat.ne_of_lt hlt)]
    exact (f2 b hb).1
  have st3 : tn 0 s3.heap := T.keep _ _ _ st2 fun b _ o e => by rw [h3]; exact Heap.get?_push_of_some _ e
  generalize hH3 : upd H2 D o0 = H3 at I3 f3 w0
  have I4 := block_start I3 ok hN f3
  have pg := hg s3 H3 s3.heap.objs.size (cellsFrom (s3.heap.objs.size + 1) scope.names (cloFrom X.env.cells scope.names [])) fp
  have pt := ht s3 H3 s3.heap.objs.size (cellsFrom (s3.heap.objs.size + 1) scope.names (cloFrom X.env.cells scope.names [])) fp
  have pk := hk s3 H3 s3.heap.objs.size (cellsFrom (s3.heap.objs.size + 1) scope.names (cloFrom X.env.cells scope.names [])) fp
  have pe := he s3 H3 s3.heap.objs.size (cellsFrom (s3.heap.objs.size + 1) scope.names (cloFrom X.env.cells scope.names [])) fp
  have nfp : ∀ b ∈ fp, H3 b = none := fun b hb => (f3 b hb).1.1
  show codeAny _ _ (.compStart (.DictComp kx vx [⟨tg, iter, ifs, 0⟩] scope pos) 0 (.ref it) (.ref D) (compEnvC scope (cellsFrom (s3.heap.objs.size + 1) scope.names (cloFrom X.env.cells scope.names [])) s3.heap.objs.size X.env)) _ { s3 with heap := pushCells (s3.heap.push { cls := .type "dict", data := .dict #[] }) scope.names }
  generalize hce : compEnvC scope (cellsFrom (s3.heap.objs.size + 1) scope.names (cloFrom X.env.cells scope.names [])) s3.heap.objs.size X.env = ce at I4 pg pt pk pe ⊢
  have cL : ce.locals = s3.heap.objs.size := by subst hce; rfl
  generalize hs4 : ({ s3 with heap := pushCells (s3.heap.push { cls := .type "dict", data := .dict #[] }) scope.names } : Shared) = s4 at I4 ⊢
  have st4 : tn 0 s4.heap := T.keep _ _ _ st3 fun b _ o e => by rw [← hs4]; exact pushCells_keeps _ _ _ _ (Heap.get?_push_of_some _ e)
  have stat : ∀ {σ' : L2.St} {H' : Hp} {s' : Shared}, Inv (X.blk s3 H3 scope ce fp) [] σ' H' s' → (∀ b ∈ fp, H' b = none) → ∀ b ∈ fp, FpOk (X.blk s3 H3 scope ce fp) [] H' b := fun {σ' H' s'} I' hn b hb =>
    ⟨hn b hb, (I'.ok.exf b hb).1, I'.ok.exfs b hb, .inl hb, fun x c e => (I'.ok.exf b hb).2 x c e, fun p hp => nomatch (show p ∈ ([] : List (Addr × Obj)) from hp)⟩
  have loop : codeAny (model X.prog X.w) X.A (.compLoop (.DictComp kx vx [⟨tg, iter, ifs, 0⟩] scope pos) 0 (.ref it) (.ref D) ce) (compPost (model X.prog X.w) X.A X.xe use Qf (.ref D) s3.heap.objs.size) s4 := by
    refine compLoop_anyD (fun n s' => ∃ i H', Inv (X.blk s3 H3 scope ce fp) [] (wipe σ (own.map (·.2))) H' s' ∧ tn i s'.heap ∧ (∀ b ∈ fp, H' b = none) ∧ W i n H') ?_ m0 ⟨0, H3, I4, st4, nfp, w0⟩
    rintro n s5 ⟨i, H5, I5, st5, n5, w5⟩
    rcases turn i n H5 w5 with ⟨stop, qq⟩ | ⟨go, Nx, hNx, step⟩
    · refine thnF (T.done (X.blk s3 H3 scope ce fp) rfl rfl rfl hc i [] s5 _ H5 (fun _ _ => False) I5 (stat I5 n5) st5 stop) fun r s6 ⟨hr, I6⟩ => ?_
      subst hr
      have I7 : Inv X pins σ H5 s6 := I3.call' (ch := fp) I6.os I6.base I6.hok I6.bare fun b hb => ⟨(f3 b hb).1.2.2.2.1, (f3 b hb).1.2.1, (f3 b hb).1.2.2.2.2.1, (f3 b hb).1.2.2.2.2.2⟩
      have nC : H5 s3.heap.objs.size = none := by
        have z : H5 ce.locals = none := I6.free
        rw [cL] at z
        exact z
      obtain ⟨m, hn, _⟩ := I6.loc
      have hn : s6.heap.Ns ce.locals m := hn
      rw [cL] at hn
      exact hRR D s3.heap.objs.size s6 m H5 I7 qq hn (I3.fpOk (Nat.le_refl _) nC)
    · refine thnF (T.item (X.blk s3 H3 scope ce fp) rfl rfl rfl hc i [] s5 _ H5 (fun _ _ => False) I5 (stat I5 n5) st5 go) fun r s6 ⟨u, hr, h6⟩ => ?_
      subst hr
      refine thnF h6 fun _ s7 ⟨x, H7, I7, r7, y7, st7, n7⟩ => ?_
      have I7' := I7.pinned (stat I7 n7) (T.obj _ _ st7)
      refine thnF (pg.run _ s7 _ H7 x u _ I7' r7 (step x H7 y7)) fun _ s8 ⟨σ8, H8, I8, hw8, q8⟩ => ?_
      refine thnF (pt.run _ s8 σ8 H8 _ I8 q8) fun b s9 ⟨H9, I9, q9⟩ => ?_
      have fin : ∀ {σ9 : L2.St} {s' : Shared} {H' : Hp}, Inv (X.blk s3 H3 scope ce fp) ([] ++ pinsAt fp s7.heap) σ9 H' s' → (wipe σ (own.map (·.2))).length = σ9.length → (∀ (j : Nat) v, (wipe σ (own.map (·.2)))[j]? = some (some v) → σ9[j]? = some (some v)) → Nx H' →
          ∃ m, m < n ∧ ∃ i H', Inv (X.blk s3 H3 scope ce fp) [] (wipe σ (own.map (·.2))) H' s' ∧ tn i s'.heap ∧ (∀ b ∈ fp, H' b = none) ∧ W i m H' := fun {σ9 s' H'} I' hl hk nx => by
        obtain ⟨m', hm, w'⟩ := hNx H' nx
        have pin' : ∀ b ∈ fp, ∀ o, s7.heap.get? b = some o → s'.heap.get? b = some o ∧ H' b = none := fun b hb o e => by
          have z := I'.pin (b, o) (List.mem_append_right _ (List.mem_append_right _ (mem_pinsAt hb e)))
          exact ⟨z.1, z.2.1⟩
        refine ⟨m', hm, i + 1, H', (I'.unpinned (pins := [])).weak hl hk, T.keep _ _ _ st7 fun b hb o e => (pin' b hb o e).1, fun b hb => ?_, w'⟩
        obtain ⟨o, e, _⟩ := T.obj _ _ st7 b hb
        exact (pin' b hb o e).2
      have hl8 : (wipe σ (own.map (·.2))).length = σ8.length := by rw [← hw8, wipe_length]
      have hk8 : ∀ (j : Nat) v, (wipe σ (own.map (·.2)))[j]? = some (some v) → σ8[j]? = some (some v) := fun j v e => by
        rw [← hw8] at e
        exact (wipe_some e).1
      cases b with
      | false =>
        simp only [Bool.false_eq_true, if_false] at q9 ⊢
        exact fin I9 hl8 hk8 q9
      | true =>
        simp only [if_true] at q9 ⊢
        refine thnF (pk.run _ s9 σ8 H9 _ I9 q9) fun z s10 ⟨yk, H10, I10, r10, q10⟩ => ?_
        refine thnF (pe.run _ s10 σ8 H10 _ I10 q10) fun z2 s11 ⟨yv, H11, I11, r11, H12, put, nx⟩ => ?_
        exact d_setP (X := X.blk s3 H3 scope ce fp) hu I11 put r10 r11 fun s12 I12 => fin I12 hl8 hk8 nx
  exact codeAny_compStart_dict loop (T.self X.A 0 _ _ _ st4 loop)
theorem pe_dp1 {kx vx tg iter : Expr} {ifs : List Expr} {scope : Scope} {own : List (Str × Nat)} {pos : Pos} {o0 : HO} {wi : TI} {g : TG} {tt : TT} {tk tv : TE} (hc : X.calm = true) (hu : X.A.units + 1 < cLine) (hN : X.N.Nodup) (hi : PI X tg iter wi) (ok : BlkOk X.N X.env.scope scope own)
    (hg : ∀ (s : Shared) (H : Hp) (C : Addr) (cl : List (Str × Addr)) (fp : List Addr), PG (X.blk s H scope (compEnvC scope cl C X.env) fp) tg g) (ht : ∀ (s : Shared) (H : Hp) (C : Addr) (cl : List (Str × Addr)) (fp : List Addr), PTs (X.blk s H scope (compEnvC scope cl C X.env) fp) ifs tt)
    (hk : ∀ (s : Shared) (H : Hp) (C : Addr) (cl : List (Str × Addr)) (fp : List Addr), PE (X.blk s H scope (compEnvC scope cl C X.env) fp) kx tk) (he : ∀ (s : Shared) (H : Hp) (C : Addr) (cl : List (Str × Addr)) (fp : List Addr), PE (X.blk s H scope (compEnvC scope cl C X.env) fp) vx tv)
    (ho : o0 = .dK [] ∨ o0 = .dT []) (hs : ∀ x, foldedSetIterable iter X.env x = pure x := by intro _; rfl) :
    PE X (.DictComp kx vx [⟨tg, iter, ifs, 0⟩] scope pos) (tDp1 o0 wi g tt tk tv (own.map (·.2))) := by
  refine ⟨fun pins s σ H Q I h => ?_⟩
  rw [arm_eval_DictComp]
  refine dp1_core hc hu hN I hi ok hg ht hk he ho hs h fun D C s' m H' I' q hn f => ⟨m, hn, fun h'' sb => ?_⟩
  obtain ⟨f0, f1, f2, f3, f4, f5⟩ := f
  exact ⟨.ref D, H', I'.turned (t' := s'.toks) (fun b o hb e => (sb.2 b hb).trans e) f0 f1 f3 f4 f5, rfl, q⟩
theorem ps_setDp1 {i : Nat} {y : Str} {py spos : Pos} {kx vx tg iter : Expr} {ifs : List Expr} {scope : Scope} {own : List (Str × Nat)} {pos : Pos} {o0 : HO} {wi : TI} {g : TG} {tt : TT} {tk tv : TE} (hc : X.calm = true) (hu : X.A.units + 1 < cLine) (hN : X.N.Nodup) (hy : X.N[i]? = some y) (hyl : X.env.scope.names.lookup y = some .local)
    (hsw : swapsWith (.DictComp kx vx [⟨tg, iter, ifs, 0⟩] scope pos) (some (.Name y py)) spos.line X.env = pure true) (hi : PI X tg iter wi) (ok : BlkOk X.N X.env.scope scope own)
    (hg : ∀ (s : Shared) (H : Hp) (C : Addr) (cl : List (Str × Addr)) (fp : List Addr), PG (X.blk s H scope (compEnvC scope cl C X.env) fp) tg g) (ht : ∀ (s : Shared) (H : Hp) (C : Addr) (cl : List (Str × Addr)) (fp : List Addr), PTs (X.blk s H scope (compEnvC scope cl C X.env) fp) ifs tt)
    (hk : ∀ (s : Shared) (H : Hp) (C : Addr) (cl : List (Str × Addr)) (fp : List Addr), PE (X.blk s H scope (compEnvC scope cl C X.env) fp) kx tk) (he : ∀ (s : Shared) (H : Hp) (C : Addr) (cl : List (Str × Addr)) (fp : List Addr), PE (X.blk s H scope (compEnvC scope cl C X.env) fp) vx tv)
    (ho : o0 = .dK [] ∨ o0 = .dT []) (hs : ∀ x, foldedSetIterable iter X.env x = pure x := by intro _; rfl) :
    PS X (.Assign [.Name y py] (.DictComp kx vx [⟨tg, iter, ifs, 0⟩] scope pos) spos) (tAsg (tDp1 o0 wi g tt tk tv (own.map (·.2))) (gName i)) := by
  refine ⟨fun pins s σ H D I h => ?_⟩
  rw [exec_Assign_Name_used _ _ _ _ hsw]
  refine wpAny_bind (wpAny_standAt (wpAny_bind ?_))
  show wpAny _ X.A (do let _ ← comprehension (.DictComp kx vx [⟨tg, iter, ifs, 0⟩] scope pos) scope X.env (firstIterPos [⟨tg, iter, ifs, 0⟩] pos) newDict false (eval iter X.env) (some (assign (.Name y py) X.env))) _ _ s
  have h : tDp1 o0 wi g tt tk tv (own.map (·.2)) σ H (fun x H1 => gName i x σ H1 D.nx) := h
  refine wpAny_bind (thn (dp1_core (Qf := fun _ s' => SP X pins D .next s') hc hu hN I hi ok hg ht hk he ho hs h fun L C s' m H' I' q hn f => ?_) fun _ s' hq => wpAny_pure (wpAny_pure hq))
  show wpAny _ _ (assign (.Name y py) X.env (.ref L)) _ _ _
  refine wpAny_assign_Name (store_ok2 (v := V.ref L) I' hN hy (.inl hyl) rfl (fun s2 I2 ⟨a, sb, ha⟩ => ?_) (.inr hyl))
  obtain ⟨f0, f1, f2, f3, f4, f5⟩ := f
  have haC : C ≠ a := by
    rcases ha with z | z
    · rw [z]; exact f1
    · exact fun e => f4 y a z e.symm
  refine ⟨m, hn.sameBut sb haC, fun h3 sb3 => ?_⟩
  exact ⟨_, H', I2.turned (t' := s2.toks) (fun b o hb e => (sb3.2 b hb).trans e) f0 f1 f3 f4 f5, q⟩
def tDp2 (o0 : HO) (wi : TI) (g : TG) (tt : TT) (wi1 : TI) (g1 : TG) (tt1 : TT) (tk tv : TE) (vs vs1 : List Nat) : TE := fun σ H Q => wi σ H fun J H1 => ∀ D, H1 D = none → ∃ W : Nat → Nat → Hp → Prop, (∃ m, W 0 m (upd H1 D o0)) ∧ ∀ i m H, W i m H →
  (J.stop i H ∧ Q (.ref D) H) ∨ (J.go i H ∧ ∃ Nx : Hp → Prop, (∀ H', Nx H' → ∃ m', m' < m ∧ W (i + 1) m' H') ∧ ∀ x H', J.yld i H x H' → g x (wipe σ vs) H' fun σ2 H2 => wipe σ2 vs = wipe σ vs ∧ tt σ2 H2 fun b H3 =>
    if b = true then wi1 σ2 H3 fun J1 H4 => ∃ W1 : Nat → Nat → Hp → Prop, (∃ m, W1 0 m H4) ∧ ∀ j k H, W1 j k H →
      (J1.stop j H ∧ Nx H) ∨ (J1.go j H ∧ ∃ Nx1 : Hp → Prop, (∀ H', Nx1 H' → ∃ k', k' < k ∧ W1 (j + 1) k' H') ∧ ∀ x H', J1.yld j H x H' → g1 x (wipe σ2 vs1) H' fun σ3 H5 => wipe σ3 vs1 = wipe σ2 vs1 ∧ tt1 σ3 H5 fun b H6 =>
        if b = true then tk σ3 H6 fun y H7 => tv σ3 H7 fun z H8 => ∃ H9, DPut H8 D y z H9 ∧ Nx1 H9 else Nx1 H6)
    else Nx H3)
theorem dp2_core {pins : List (Addr × Obj)} {s : Shared} {σ : L2.St} {H : Hp} {Q : VK} {use : Option (Value → Sem Unit)} {Qf : Value → Shared → Prop} {pos' : Pos} {kx vx tg iter tg1 iter1 : Expr} {ifs ifs1 : List Expr} {scope : Scope} {own : List (Str × Nat)} {vs1 : List Nat} {pos : Pos} {o0 : HO} {wi wi1 : TI} {g g1 : TG} {tt tt1 : TT} {tk tv : TE} (hc : X.calm = true) (hu : X.A.units + 1 < cLine) (hN : X.N.Nodup) (I : Inv X pins σ H s) (hi : PI X tg iter wi) (ok : BlkOk X.N X.env.scope scope own) (hv : ∀ i ∈ vs1, i ∈ own.map (·.2))
    (hg : ∀ (s : Shared) (H : Hp) (C : Addr) (cl : List (Str × Addr)) (fp : List Addr), PG (X.blk s H scope (compEnvC scope cl C X.env) fp) tg g) (ht : ∀ (s : Shared) (H : Hp) (C : Addr) (cl : List (Str × Addr)) (fp : List Addr), PTs (X.blk s H scope (compEnvC scope cl C X.env) fp) ifs tt)
    (hi1 : ∀ (s : Shared) (H : Hp) (C : Addr) (cl : List (Str × Addr)) (fp : List Addr), PI (X.blk s H scope (compEnvC scope cl C X.env) fp) tg1 iter1 wi1) (hg1 : ∀ (s : Shared) (H : Hp) (C : Addr) (cl : List (Str × Addr)) (fp : List Addr), PG (X.blk s H scope (compEnvC scope cl C X.env) fp) tg1 g1) (ht1 : ∀ (s : Shared) (H : Hp) (C : Addr) (cl : List (Str × Addr)) (fp : List Addr), PTs (X.blk s H scope (compEnvC scope cl C X.env) fp) ifs1 tt1)
    (hk : ∀ (s : Shared) (H : Hp) (C : Addr) (cl : List (Str × Addr)) (fp : List Addr), PE (X.blk s H scope (compEnvC scope cl C X.env) fp) kx tk) (he : ∀ (s : Shared) (H : Hp) (C : Addr) (cl : List (Str × Addr)) (fp : List Addr), PE (X.blk s H scope (compEnvC scope cl C X.env) fp) vx tv)
    (ho : o0 = .dK [] ∨ o0 = .dT []) (hs : ∀ x, foldedSetIterable iter X.env x = pure x) (hs1 : ∀ env x, foldedSetIterable iter1 env x = pure x)
    (h : tDp2 o0 wi g tt wi1 g1 tt1 tk tv (own.map (·.2)) vs1 σ H Q)
    (hRR : ∀ D C s' m H', Inv X pins σ H' s' → Q (.ref D) H' → s'.heap.Ns C m → FpOk X pins H' C → compPost (model X.prog X.w) X.A X.xe use Qf (.ref D) C (.ok .next) s') :
    wpAny (model X.prog X.w) X.A (comprehension (.DictComp kx vx [⟨tg, iter, ifs, 0⟩, ⟨tg1, iter1, ifs1, 0⟩] scope pos) scope X.env pos' newDict false (eval iter X.env) use) Qf X.xe s := by
  have hfree : ∀ y ∈ scope.names, y.2 = .free → ∃ c, X.env.cells.lookup y.1 = some c := fun y hy e => I.ok.has _ (ok.free y hy e)
  refine wpAny_comprehension_free (use := use) rfl hs (closure_ok hfree) ok.kind (fun y hy e => by rw [ok.uniq y hy, e]) (thn (hi.run pins s σ H _ I h) fun xv s1 hx => thn hx fun itv s2 h2 => ?_)
  obtain ⟨it, fp, tn, J, H2, e, I2, T, st2, f2, q⟩ := h2
  subst e
  refine wpAny_newObj_type (newEnv_comp ?_)
  generalize hD : s2.heap.objs.size = D
  obtain ⟨W, ⟨m0, w0⟩, turn⟩ := q D (I2.hok.fresh (Nat.le_of_eq hD))
  generalize hs3 : ({ s2 with heap := s2.heap.push { cls := .type "dict", data := .dict #[] } } : Shared) = s3
  have h3 : s3.heap = s2.heap.push { cls := .type "dict", data := .dict #[] } := by rw [← hs3]
  have I3 : Inv X pins σ (upd H2 D o0) s3 := by
    rw [← hs3]
    refine I2.laid (t' := s2.toks) (fun b o e => Heap.get?_push_of_some _ e) (Nat.le_of_eq hD) ?_
    rw [← hD]
    rcases ho with z | z
    · rw [z]; exact dk_empty s2.heap I2.big
    · rw [z]; exact dt_empty s2.heap I2.big
  have f3 : ∀ b ∈ fp, FpOk X pins (upd H2 D o0) b ∧ b < s3.heap.objs.size := fun b hb => by
    obtain ⟨o, e, _⟩ := T.obj _ _ st2 b hb
    have hlt := Heap.lt_size e
    refine ⟨⟨?_, (f2 b hb).2⟩, by rw [h3, Heap.size_push]; exact Nat.lt_succ_of_lt hlt⟩
    rw [upd_ne (by rw [← hD]; exact Nat.ne_of_lt hlt)]
    exact (f2 b hb).1
  have st3 : tn 0 s3.heap := T.keep _ _ _ st2 fun b _ o e => by rw [h3]; exact Heap.get?_push_of_some _ e
  generalize hH3 : upd H2 D o0 = H3 at I3 f3 w0
  have I4 := block_start I3 ok hN f3
  have pg := hg s3 H3 s3.heap.objs.size (cellsFrom (s3.heap.objs.size + 1) scope.names (cloFrom X.env.cells scope.names [])) fp
  have pt := ht s3 H3 s3.heap.objs.size (cellsFrom (s3.heap.objs.size + 1) scope.names (cloFrom X.env.cells scope.names [])) fp
  have pi1 := hi1 s3 H3 s3.heap.objs.size (cellsFrom (s3.heap.objs.size + 1) scope.names (cloFrom X.env.cells scope.names [])) fp
  have pg1 := hg1 s3 H3 s3.heap.objs.size (cellsFrom (s3.heap.objs.size + 1) scope.names (cloFrom X.env.cells scope.names [])) fp
  have pt1 := ht1 s3 H3 s3.heap.objs.size (cellsFrom (s3.heap.objs.size + 1) scope.names (cloFrom X.env.cells scope.names [])) fp
  have pk := hk s3 H3 s3.heap.objs.size (cellsFrom (s3.heap.objs.size + 1) scope.names (cloFrom X.env.cells scope.names [])) fp
  have pe := he s3 H3 s3.heap.objs.size (cellsFrom (s3.heap.objs.size + 1) scope.names (cloFrom X.env.cells scope.names [])) fp
  have nfp : ∀ b ∈ fp, H3 b = none := fun b hb => (f3 b hb).1.1
  show codeAny _ _ (.compStart (.DictComp kx vx [⟨tg, iter, ifs, 0⟩, ⟨tg1, iter1, ifs1, 0⟩] scope pos) 0 (.ref it) (.ref D) (compEnvC scope (cellsFrom (s3.heap.objs.size + 1) scope.names (cloFrom X.env.cells scope.names [])) s3.heap.objs.size X.env)) _ { s3 with heap := pushCells (s3.heap.push { cls := .type "dict", data := .dict #[] }) scope.names }
  generalize hce : compEnvC scope (cellsFrom (s3.heap.objs.size + 1) scope.names (cloFrom X.env.cells scope.names [])) s3.heap.objs.size X.env = ce at I4 pg pt pi1 pg1 pt1 pk pe ⊢
  have cL : ce.locals = s3.heap.objs.size := by subst hce; rfl
  generalize hs4 : ({ s3 with heap := pushCells (s3.heap.push { cls := .type "dict", data := .dict #[] }) scope.names } : Shared) = s4 at I4 ⊢
  have st4 : tn 0 s4.heap := T.keep _ _ _ st3 fun b _ o e => by rw [← hs4]; exact pushCells_keeps _ _ _ _ (Heap.get?_push_of_some _ e)
  have stat : ∀ {σ' : L2.St} {H' : Hp} {s' : Shared}, Inv (X.blk s3 H3 scope ce fp) [] σ' H' s' → (∀ b ∈ fp, H' b = none) → ∀ b ∈ fp, FpOk (X.blk s3 H3 scope ce fp) [] H' b := fun {σ' H' s'} I' hn b hb =>
    ⟨hn b hb, (I'.ok.exf b hb).1, I'.ok.exfs b hb, .inl hb, fun x c e => (I'.ok.exf b hb).2 x c e, fun p hp => nomatch (show p ∈ ([] : List (Addr × Obj)) from hp)⟩
  have loop : codeAny (model X.prog X.w) X.A (.compLoop (.DictComp kx vx [⟨tg, iter, ifs, 0⟩, ⟨tg1, iter1, ifs1, 0⟩] scope pos) 0 (.ref it) (.ref D) ce) (compPost (model X.prog X.w) X.A X.xe use Qf (.ref D) s3.heap.objs.size) s4 := by
    refine loop2_out (hs1 ce) (fun n s' => ∃ i H', Inv (X.blk s3 H3 scope ce fp) [] (wipe σ (own.map (·.2))) H' s' ∧ tn i s'.heap ∧ (∀ b ∈ fp, H' b = none) ∧ W i n H') ?_ m0 ⟨0, H3, I4, st4, nfp, w0⟩
    rintro n s5 ⟨i, H5, I5, st5, n5, w5⟩
    rcases turn i n H5 w5 with ⟨stop, qq⟩ | ⟨go, Nx, hNx, step⟩
    · refine thnF (T.done (X.blk s3 H3 scope ce fp) rfl rfl rfl hc i [] s5 _ H5 (fun _ _ => False) I5 (stat I5 n5) st5 stop) fun r s6 ⟨hr, I6⟩ => ?_
      subst hr
      have I7 : Inv X pins σ H5 s6 := I3.call' (ch := fp) I6.os I6.base I6.hok I6.bare fun b hb => ⟨(f3 b hb).1.2.2.2.1, (f3 b hb).1.2.1, (f3 b hb).1.2.2.2.2.1, (f3 b hb).1.2.2.2.2.2⟩
      have nC : H5 s3.heap.objs.size = none := by
        have z : H5 ce.locals = none := I6.free
        rw [cL] at z
        exact z
      obtain ⟨m, hn, _⟩ := I6.loc
      have hn : s6.heap.Ns ce.locals m := hn
      rw [cL] at hn
      exact hRR D s3.heap.objs.size s6 m H5 I7 qq hn (I3.fpOk (Nat.le_refl _) nC)
    · refine thnF (T.item (X.blk s3 H3 scope ce fp) rfl rfl rfl hc i [] s5 _ H5 (fun _ _ => False) I5 (stat I5 n5) st5 go) fun r s6 ⟨u, hr, h6⟩ => ?_
      subst hr
      refine thnF h6 fun _ s7 ⟨x, H7, I7, r7, y7, st7, n7⟩ => ?_
      have I7' := I7.pinned (stat I7 n7) (T.obj _ _ st7)
      refine thnF (pg.run _ s7 _ H7 x u _ I7' r7 (step x H7 y7)) fun _ s8 ⟨σ8, H8, I8, hw8, q8⟩ => ?_
      refine thnF (pt.run _ s8 σ8 H8 _ I8 q8) fun b s9 ⟨H9, I9, q9⟩ => ?_
      have fin : ∀ {σ9 : L2.St} {s' : Shared} {H' : Hp}, Inv (X.blk s3 H3 scope ce fp) ([] ++ pinsAt fp s7.heap) σ9 H' s' → (wipe σ (own.map (·.2))).length = σ9.length → (∀ (j : Nat) v, (wipe σ (own.map (·.2)))[j]? = some (some v) → σ9[j]? = some (some v)) → Nx H' →
          ∃ m, m < n ∧ ∃ i H', Inv (X.blk s3 H3 scope ce fp) [] (wipe σ (own.map (·.2))) H' s' ∧ tn i s'.heap ∧ (∀ b ∈ fp, H' b = none) ∧ W i m H' := fun {σ9 s' H'} I' hl hk nx => by
        obtain ⟨m', hm, w'⟩ := hNx H' nx
        have pin' : ∀ b ∈ fp, ∀ o, s7.heap.get? b = some o → s'.heap.get? b = some o ∧ H' b = none := fun b hb o e => by
          have z := I'.pin (b, o) (List.mem_append_right _ (List.mem_append_right _ (mem_pinsAt hb e)))
          exact ⟨z.1, z.2.1⟩
        refine ⟨m', hm, i + 1, H', (I'.unpinned (pins := [])).weak hl hk, T.keep _ _ _ st7 fun b hb o e => (pin' b hb o e).1, fun b hb => ?_, w'⟩
        obtain ⟨o, e, _⟩ := T.obj _ _ st7 b hb
        exact (pin' b hb o e).2
      have hl8 : (wipe σ (own.map (·.2))).length = σ8.length := by rw [← hw8, wipe_length]
      have hk8 : ∀ (j : Nat) v, (wipe σ (own.map (·.2)))[j]? = some (some v) → σ8[j]? = some (some v) := fun j v e => by
        rw [← hw8] at e
        exact (wipe_some e).1
      have hk9 : ∀ (j : Nat) v, (wipe σ (own.map (·.2)))[j]? = some (some v) → (wipe σ8 vs1)[j]? = some (some v) := fun j v e => by
        rw [← hw8] at e
        obtain ⟨e1, e2⟩ := wipe_some e
        rw [wipe_out fun z => e2 (hv j z)]
        exact e1
      cases b with
      | false =>
        simp only [Bool.false_eq_true, if_false] at q9 ⊢
        exact fin I9 hl8 hk8 q9
      | true =>
        simp only [if_true] at q9 ⊢
        refine thnF (pi1.run _ s9 σ8 H9 _ I9 q9) fun xv s10 hx => thnF hx fun itv s11 h11 => ?_
        obtain ⟨it1, fp1, tn1, J1, H11, e1, I11, T1, st11, f11, W1, ⟨m1, w1⟩, turn1⟩ := h11
        subst e1
        have stat1 : ∀ {H' : Hp}, (∀ b ∈ fp1, H' b = none) → ∀ b ∈ fp1, FpOk (X.blk s3 H3 scope ce fp) ([] ++ pinsAt fp s7.heap) H' b := fun hn b hb => ⟨hn b hb, (f11 b hb).2⟩
        have loop1 : codeAny (model X.prog X.w) X.A (.compLoop (.DictComp kx vx [⟨tg, iter, ifs, 0⟩, ⟨tg1, iter1, ifs1, 0⟩] scope pos) 1 (.ref it1) (.ref D) ce)
            (fun r s' => match r with
              | .ok _ => ∃ m, m < n ∧ ∃ i H', Inv (X.blk s3 H3 scope ce fp) [] (wipe σ (own.map (·.2))) H' s' ∧ tn i s'.heap ∧ (∀ b ∈ fp, H' b = none) ∧ W i m H'
              | .error _ => False) s11 := by
          refine loop2_in (fun k s' => ∃ j H', Inv (X.blk s3 H3 scope ce fp) ([] ++ pinsAt fp s7.heap) (wipe σ8 vs1) H' s' ∧ tn1 j s'.heap ∧ (∀ b ∈ fp1, H' b = none) ∧ W1 j k H') ?_ m1 ⟨0, H11, I11.weak (wipe_length _ _) (fun j v e => (wipe_some e).1), st11, fun b hb => (f11 b hb).1, w1⟩
          rintro k s12 ⟨j, H12, I12, st12, n12, w12⟩
          rcases turn1 j k H12 w12 with ⟨stop1, nx1⟩ | ⟨go1, Nx1, hNx1, step1⟩
          · refine thnF (T1.done (X.blk s3 H3 scope ce fp) rfl rfl rfl hc j _ s12 (wipe σ8 vs1) H12 (fun _ _ => False) I12 (stat1 n12) st12 stop1) fun r s13 ⟨hr, I13⟩ => ?_
            subst hr
            exact fin I13 (hl8.trans (wipe_length σ8 vs1).symm) hk9 nx1
          · refine thnF (T1.item (X.blk s3 H3 scope ce fp) rfl rfl rfl hc j _ s12 (wipe σ8 vs1) H12 (fun _ _ => False) I12 (stat1 n12) st12 go1) fun r s13 ⟨u1, hr, h13⟩ => ?_
            subst hr
            refine thnF h13 fun _ s14 ⟨x1, H14, I14, r14, y14, st14, n14⟩ => ?_
            have I14' := I14.pinned (stat1 n14) (T1.obj _ _ st14)
            refine thnF (pg1.run _ s14 (wipe σ8 vs1) H14 x1 u1 _ I14' r14 (step1 x1 H14 y14)) fun _ s15 ⟨σ15, H15, I15, hw15, q15⟩ => ?_
            refine thnF (pt1.run _ s15 σ15 H15 _ I15 q15) fun b1 s16 ⟨H16, I16, q16⟩ => ?_
            have fin1 : ∀ {s' : Shared} {H' : Hp}, Inv (X.blk s3 H3 scope ce fp) (([] ++ pinsAt fp s7.heap) ++ pinsAt fp1 s14.heap) σ15 H' s' → Nx1 H' →
                ∃ m, m < k ∧ ∃ j H', Inv (X.blk s3 H3 scope ce fp) ([] ++ pinsAt fp s7.heap) (wipe σ8 vs1) H' s' ∧ tn1 j s'.heap ∧ (∀ b ∈ fp1, H' b = none) ∧ W1 j m H' := fun {s' H'} I' nx => by
              obtain ⟨m', hm, w'⟩ := hNx1 H' nx
              have pin' : ∀ b ∈ fp1, ∀ o, s14.heap.get? b = some o → s'.heap.get? b = some o ∧ H' b = none := fun b hb o e => by
                have z := I'.pin (b, o) (List.mem_append_right _ (List.mem_append_right _ (mem_pinsAt hb e)))
                exact ⟨z.1, z.2.1⟩
              refine ⟨m', hm, j + 1, H', I'.unpinned.weak (by rw [← hw15, wipe_length]) (fun j v e => by rw [← hw15] at e; exact (wipe_some e).1), T1.keep _ _ _ st14 fun b hb o e => (pin' b hb o e).1, fun b hb => ?_, w'⟩
              obtain ⟨o, e, _⟩ := T1.obj _ _ st14 b hb
              exact (pin' b hb o e).2
            cases b1 with
            | false =>
              simp only [Bool.false_eq_true, if_false] at q16 ⊢
              exact fin1 I16 q16
            | true =>
              simp only [if_true] at q16 ⊢
              refine thnF (pk.run _ s16 σ15 H16 _ I16 q16) fun z s17 ⟨yk, H17, I17, r17, q17⟩ => ?_
              refine thnF (pe.run _ s17 σ15 H17 _ I17 q17) fun z2 s18 ⟨yv, H18, I18, r18, H19, put, nx⟩ => ?_
              exact d_setP (X := X.blk s3 H3 scope ce fp) hu I18 put r17 r18 fun s19 I19 => fin1 I19 nx
        exact start2 loop1 (T1.self X.A 0 _ _ _ st11 loop1)
  exact codeAny_compStart_dict loop (T.self X.A 0 _ _ _ st4 loop)
theorem pe_dp2 {kx vx tg iter tg1 iter1 : Expr} {ifs ifs1 : List Expr} {scope : Scope} {own : List (Str × Nat)} {vs1 : List Nat} {pos : Pos} {o0 : HO} {wi wi1 : TI} {g g1 : TG} {tt tt1 : TT} {tk tv : TE} (hc : X.calm = true) (hu : X.A.units + 1 < cLine) (hN : X.N.Nodup) (hi : PI X tg iter wi) (ok : BlkOk X.N X.env.scope scope own) (hv : ∀ i ∈ vs1, i ∈ own.map (·.2))
    (hg : ∀ (s : Shared) (H : Hp) (C : Addr) (cl : List (Str × Addr)) (fp : List Addr), PG (X.blk s H scope (compEnvC scope cl C X.env) fp) tg g) (ht : ∀ (s : Shared) (H : Hp) (C : Addr) (cl : List (Str × Addr)) (fp : List Addr), PTs (X.blk s H scope (compEnvC scope cl C X.env) fp) ifs tt)
    (hi1 : ∀ (s : Shared) (H : Hp) (C : Addr) (cl : List (Str × Addr)) (fp : List Addr), PI (X.blk s H scope (compEnvC scope cl C X.env) fp) tg1 iter1 wi1) (hg1 : ∀ (s : Shared) (H : Hp) (C : Addr) (cl : List (Str × Addr)) (fp : List Addr), PG (X.blk s H scope (compEnvC scope cl C X.env) fp) tg1 g1) (ht1 : ∀ (s : Shared) (H : Hp) (C : Addr) (cl : List (Str × Addr)) (fp : List Addr), PTs (X.blk s H scope (compEnvC scope cl C X.env) fp) ifs1 tt1)
    (hk : ∀ (s : Shared) (H : Hp) (C : Addr) (cl : List (Str × Addr)) (fp : List Addr), PE (X.blk s H scope (compEnvC scope cl C X.env) fp) kx tk) (he : ∀ (s : Shared) (H : Hp) (C : Addr) (cl : List (Str × Addr)) (fp : List Addr), PE (X.blk s H scope (compEnvC scope cl C X.env) fp) vx tv)
    (ho : o0 = .dK [] ∨ o0 = .dT []) (hs : ∀ x, foldedSetIterable iter X.env x = pure x := by intro _; rfl) (hs1 : ∀ env x, foldedSetIterable iter1 env x = pure x := by intro _ _; rfl) :
    PE X (.DictComp kx vx [⟨tg, iter, ifs, 0⟩, ⟨tg1, iter1, ifs1, 0⟩] scope pos) (tDp2 o0 wi g tt wi1 g1 tt1 tk tv (own.map (·.2)) vs1) := by
  refine ⟨fun pins s σ H Q I h => ?_⟩
  rw [arm_eval_DictComp]
  refine dp2_core hc hu hN I hi ok hv hg ht hi1 hg1 ht1 hk he ho hs hs1 h fun D C s' m H' I' q hn f => ⟨m, hn, fun h'' sb => ?_⟩
  obtain ⟨f0, f1, f2, f3, f4, f5⟩ := f
  exact ⟨.ref D, H', I'.turned (t' := s'.toks) (fun b o hb e => (sb.2 b hb).trans e) f0 f1 f3 f4 f5, rfl, q⟩
theorem ps_setDp2 {i : Nat} {y : Str} {py spos : Pos} {kx vx tg iter tg1 iter1 : Expr} {ifs ifs1 : List Expr} {scope : Scope} {own : List (Str × Nat)} {vs1 : List Nat} {pos : Pos} {o0 : HO} {wi wi1 : TI} {g g1 : TG} {tt tt1 : TT} {tk tv : TE} (hc : X.calm = true) (hu : X.A.units + 1 < cLine) (hN : X.N.Nodup) (hy : X.N[i]? = some y) (hyl : X.env.scope.names.lookup y = some .local)
    (hsw : swapsWith (.DictComp kx vx [⟨tg, iter, ifs, 0⟩, ⟨tg1, iter1, ifs1, 0⟩] scope pos) (some (.Name y py)) spos.line X.env = pure true) (hi : PI X tg iter wi) (ok : BlkOk X.N X.env.scope scope own) (hv : ∀ i ∈ vs1, i ∈ own.map (·.2))
    (hg : ∀ (s : Shared) (H : Hp) (C : Addr) (cl : List (Str × Addr)) (fp : List Addr), PG (X.blk s H scope (compEnvC scope cl C X.env) fp) tg g) (ht : ∀ (s : Shared) (H : Hp) (C : Addr) (cl : List (Str × Addr)) (fp : List Addr), PTs (X.blk s H scope (compEnvC scope cl C X.env) fp) ifs tt)
    (hi1 : ∀ (s : Shared) (H : Hp) (C : Addr) (cl : List (Str × Addr)) (fp : List Addr), PI (X.blk s H scope (compEnvC scope cl C X.env) fp) tg1 iter1 wi1) (hg1 : ∀ (s : Shared) (H : Hp) (C : Addr) (cl : List (Str × Addr)) (fp : List Addr), PG (X.blk s H scope (compEnvC scope cl C X.env) fp) tg1 g1) (ht1 : ∀ (s : Shared) (H : Hp) (C : Addr) (cl : List (Str × Addr)) (fp : List Addr), PTs (X.blk s H scope (compEnvC scope cl C X.env) fp) ifs1 tt1)
    (hk : ∀ (s : Shared) (H : Hp) (C : Addr) (cl : List (Str × Addr)) (fp : List Addr), PE (X.blk s H scope (compEnvC scope cl C X.env) fp) kx tk) (he : ∀ (s : Shared) (H : Hp) (C : Addr) (cl : List (Str × Addr)) (fp : List Addr), PE (X.blk s H scope (compEnvC scope cl C X.env) fp) vx tv)
    (ho : o0 = .dK [] ∨ o0 = .dT []) (hs : ∀ x, foldedSetIterable iter X.env x = pure x := by intro _; rfl) (hs1 : ∀ env x, foldedSetIterable iter1 env x = pure x := by intro _ _; rfl) :
    PS X (.Assign [.Name y py] (.DictComp kx vx [⟨tg, iter, ifs, 0⟩, ⟨tg1, iter1, ifs1, 0⟩] scope pos) spos) (tAsg (tDp2 o0 wi g tt wi1 g1 tt1 tk tv (own.map (·.2)) vs1) (gName i)) := by
  refine ⟨fun pins s σ H D I h => ?_⟩
  rw [exec_Assign_Name_used _ _ _ _ hsw]
  refine wpAny_bind (wpAny_standAt (wpAny_bind ?_))
  show wpAny _ X.A (do let _ ← comprehension (.DictComp kx vx [⟨tg, iter, ifs, 0⟩, ⟨tg1, iter1, ifs1, 0⟩] scope pos) scope X.env (firstIterPos [⟨tg, iter, ifs, 0⟩, ⟨tg1, iter1, ifs1, 0⟩] pos) newDict false (eval iter X.env) (some (assign (.Name y py) X.env))) _ _ s
  have h : tDp2 o0 wi g tt wi1 g1 tt1 tk tv (own.map (·.2)) vs1 σ H (fun x H1 => gName i x σ H1 D.nx) := h
  refine wpAny_bind (thn (dp2_core (Qf := fun _ s' => SP X pins D .next s') hc hu hN I hi ok hv hg ht hi1 hg1 ht1 hk he ho hs hs1 h fun L C s' m H' I' q hn f => ?_) fun _ s' hq => wpAny_pure (wpAny_pure hq))
  show wpAny _ _ (assign (.Name y py) X.env (.ref L)) _ _ _
  refine wpAny_assign_Name (store_ok2 (v := V.ref L) I' hN hy (.inl hyl) rfl (fun s2 I2 ⟨a, sb, ha⟩ => ?_) (.inr hyl))
  obtain ⟨f0, f1, f2, f3, f4, f5⟩ := f
  have haC : C ≠ a := by
    rcases ha with z | z
    · rw [z]; exact f1
    · exact fun e => f4 y a z e.symm
  refine ⟨m, hn.sameBut sb haC, fun h3 sb3 => ?_⟩
  exact ⟨_, H', I2.turned (t' := s2.toks) (fun b o hb e => (sb3.2 b hb).trans e) f0 f1 f3 f4 f5, q⟩
theorem swD_true {kx vx : Expr} {gs : List Comprehension} {scope : Scope} {pos py : Pos} {y : Str} {l : Nat} {env : Env} (hk : env.scope.kind = .function) (hy : env.scope.names.lookup y = some .local) (hl : (py.line == pos.line) = true)
    (ha : (scope.names.any fun (n, k) => n == y && (k == .local || k == .cell)) = false) : swapsWith (.DictComp kx vx gs scope pos) (some (.Name y py)) l env = pure true := by
  have ky : env.kindOf y = some .local := hy
  have hb : env.blockKind = .function := by unfold Env.blockKind; rw [hk]; rfl
  unfold swapsWith
  simp only [hb, ky, ha, Expr.pos, hl]
  rfl
end
end MN
/-! dict displays whose keys may be tuples -/
namespace MN
open PySem PySem.Spec PyProof.Rows L2
def rStores (D : Addr) : List (V × V) → Hp → (Hp → Prop) → Prop
  | [], H, Q => Q H
  | (y, v) :: r, H, Q => ∃ H', DPut H D y v H' ∧ rStores D r H' Q
def tDispP (o0 : HO) (trs : List (TE × TE)) : TE := fun σ H Q => ∀ p, H p = none → tPairs trs σ (upd H p o0) fun ps H2 => rStores p ps H2 fun H3 => Q (.ref p) H3
theorem stores_run {X : Cx} {pins : List (Addr × Obj)} {σ : L2.St} {D : Addr} {E : Value → Shared → Prop} (hu : X.A.units + 1 < cLine) : ∀ (ps : List (V × V)) (vs : List (Value × Value)) (H : Hp) (s : Shared) (Q : PUnit → Shared → Prop), VV ps vs → Inv X pins σ H s → rStores D ps H (fun H3 => ∀ s', Inv X pins σ H3 s' → Q PUnit.unit s') →
    wpAny (model X.prog X.w) X.A (forIn vs PUnit.unit fun (x : Value × Value) (_ : PUnit) => (do dictSet D x.1 x.2; pure (ForInStep.yield PUnit.unit) : Sem (ForInStep PUnit))) Q E s
  | [], _, H, s, Q, r, I, h => by cases r; rw [List.forIn_nil]; exact wpAny_pure (h s I)
  | (y, v) :: ps, _, H, s, Q, r, I, h => by
    cases r with
    | cons a t =>
      obtain ⟨H', g, h⟩ := h
      rw [List.forIn_cons]
      exact wpAny_bind (wpAny_bind (d_setP hu I g a.1 a.2 fun s' I' => wpAny_pure (stores_run hu ps _ H' s' Q t I' h)))
theorem rStores.mono {D : Addr} {Q Q' : Hp → Prop} (h : ∀ H, Q H → Q' H) : ∀ {ps : List (V × V)} {H : Hp}, rStores D ps H Q → rStores D ps H Q'
  | [], _, q => h _ q
  | (_, _) :: _, _, ⟨H', g, q⟩ => ⟨H', g, q.mono h⟩
theorem pe_dispP {X : Cx} {pos : Pos} {keys : List (Option Expr)} {values : List Expr} {trs : List (TE × TE)} (o0 : HO) (ho : o0 = .dK [] ∨ o0 = .dT []) (hu : X.A.units + 1 < cLine) (h : PPs X pos keys values trs) (hall : keys.all (·.isSome) = true) (hl : keys.length = values.length) (h0 : keys ≠ [])
    (h15 : keys.length ≤ 15) : PE X (.Dict keys values pos) (tDispP o0 trs) := by
  refine ⟨fun pins s σ H Q I q => ?_⟩
  have hn := I.hok.fresh (Nat.le_refl s.heap.objs.size)
  have I1 := I.laid (a := s.heap.objs.size) (o := o0) (h' := s.heap.push { cls := .type "dict", data := .dict #[] }) (t' := s.toks) (fun _ _ q => Heap.get?_push_of_some _ q) (Nat.le_refl _) (by
    rcases ho with rfl | rfl
    · exact dk_empty s.heap I.big
    · exact dt_empty s.heap I.big)
  have hn2 := pairTrees_length keys values X.env pos hall hl
  have h02 : pairTrees keys values X.env pos ≠ [] := fun he => by
    rw [he] at hn2
    exact h0 (List.length_eq_zero_iff.mp hn2.symm)
  rw [arm_eval_Dict, zip_pairTrees keys values X.env pos hall hl, dictDisplay_pairs _ h02 (by omega)]
  refine wpAny_bind (wpAny_standAt (wpAny_bind ?_))
  unfold subDict
  refine wpAny_bind (wpAny_alloc ?_)
  refine wpAny_bind (wpAny_holding ?_)
  rw [if_pos (by omega)]
  refine wpAny_bind (thn (h.run pins _ σ _ _ I1 (q _ hn)) fun vs s2 ⟨ps, H2, I2, rel, q2⟩ => ?_)
  refine wpAny_holding ?_
  refine wpAny_bind (stores_run hu ps vs H2 s2 _ rel I2 (q2.mono fun H3 q3 s3 I3 => ?_))
  exact wpAny_pure (wpAny_pure (wpAny_pure ⟨.ref s.heap.objs.size, H3, I3, rfl, q3⟩))
end MN
/-! lists and tuples of texts and truths as data -/
namespace MN
open PySem PySem.Spec PyProof.Rows L2
section
variable {K : PySem.W.Frag} {H : Hp}
theorem dp_strs : ∀ zs : List Str, DpAll K H (zs.map V.str) (zs.map PyData.str)
  | [] => .nil
  | z :: zs => .cons (.str z) (dp_strs zs)
theorem dp_bls : ∀ bs : List Bool, DpAll K H (bs.map V.bl) (bs.map PyData.bool)
  | [] => .nil
  | b :: bs => .cons (.bl b) (dp_bls bs)
theorem dpT {t : Addr} {zs : List Str} (h : SqT K H t (zs.map V.str)) : Dp K H (.ref t) (.tuple (zs.map PyData.str)) := .tup h (dp_strs zs)
theorem dpL {t : Addr} {zs : List Str} (h : SqL K H t (zs.map V.str)) : Dp K H (.ref t) (.list (zs.map PyData.str)) := .lst h (dp_strs zs)
theorem dpB {t : Addr} {bs : List Bool} (h : SqL K H t (bs.map V.bl)) : Dp K H (.ref t) (.list (bs.map PyData.bool)) := .lst h (dp_bls bs)
theorem layAll (zs : List PyData) (h : ∀ d ∈ zs, d.canLay0 = true) : PyData.canLayAll0 zs = true := by
  induction zs with
  | nil => rfl
  | cons z zs ih =>
    rw [PyData.canLayAll0, h z List.mem_cons_self, ih fun d hd => h d (List.mem_cons_of_mem _ hd)]
    rfl
theorem depthAll0 (zs : List PyData) {n : Nat} (h : ∀ d ∈ zs, d.depth ≤ n) : PyData.depthAll zs ≤ n := by
  induction zs with
  | nil => simp [PyData.depthAll]
  | cons z zs ih =>
    rw [PyData.depthAll]
    have h1 := h z List.mem_cons_self
    have h2 := ih fun d hd => h d (List.mem_cons_of_mem _ hd)
    omega
theorem shapedT {zs : List PyData} (h : ∀ d ∈ zs, d.canLay0 = true ∧ d.depth ≤ 60) : SeqAt.shaped (.tuple zs) = true := by
  unfold SeqAt.shaped
  rw [PyData.canLay0, layAll zs fun d hd => (h d hd).1, PyData.depth]
  have := depthAll0 zs (n := 60) fun d hd => (h d hd).2
  simp only [Bool.true_and, decide_eq_true_eq]
  omega
theorem shapedL {zs : List PyData} (h : ∀ d ∈ zs, d.canLay0 = true ∧ d.depth ≤ 60) : SeqAt.shaped (.list zs) = true := by
  unfold SeqAt.shaped
  rw [PyData.canLay0, layAll zs fun d hd => (h d hd).1, PyData.depth]
  have := depthAll0 zs (n := 60) fun d hd => (h d hd).2
  simp only [Bool.true_and, decide_eq_true_eq]
  omega
theorem eqv_self {d : PyData} (h : SeqAt.shaped d = true) : PyData.eqv d d = true := SeqAt.eqv_refl d (SeqAt.canLay_of_shaped h)
end
end MN
/-! the head's facts: defs at any address, one more Bool -/
namespace MN
open PySem PySem.Spec PyProof.Rows L2
def obsX (ex : PySem.W.Frag → Bool) (fn : List He5.DefA) (K : PySem.W.Frag) : He.AlD := (ex K && fn.all fun d => d.ok K, fn.map fun d => He5.fnA K (d.at_ K))
def SaysX (ex : PySem.W.Frag → Bool) (fn : List He5.DefA) (K : PySem.W.Frag) : Prop := obsX ex fn K = He5.valA fn
def obsXG (n : Nat) (ex : PySem.W.Frag → Bool) (fn : List He5.DefA) (g : Addr → Option Obj) : He.AlD := obsX ex fn (He.frG g (He5.asA g n))
def hookX (n : Nat) (ex : PySem.W.Frag → Bool) (fn : List He5.DefA) : PySem.W.Hook where
  α := He.AlD
  obs := fun s => obsXG n ex fn s.heap.get?
  val := fun _ => He5.valA fn
  says := fun _ h => ∃ K : PySem.W.Frag, K.In h ∧ SaysX ex fn K
  of := fun _ _ e => ⟨_, He.frG_in, e⟩
  keeps := fun _ _ _ ⟨K, hK, c⟩ k => ⟨K, PySem.W.Frag.In.keeps hK k, c⟩
theorem obsXG_eq {n : Nat} {ex : PySem.W.Frag → Bool} {fn : List He5.DefA} {g : Addr → Option Obj} {s : Shared} (h : ∀ a, g a = s.heap.get? a) : obsXG n ex fn g = (hookX n ex fn).obs s := by
  have e : g = s.heap.get? := funext h
  rw [e] <;> rfl
section
variable {ex : PySem.W.Frag → Bool} {fn : List He5.DefA} {K : PySem.W.Frag}
theorem SaysX.all (c : SaysX ex fn K) : ex K = true := (He.ba (show (ex K && fn.all fun d => d.ok K) = true from congrArg (fun z : He.AlD => z.1) c)).1
theorem SaysX.def_ (c : SaysX ex fn K) (i : Nat) {d : He5.DefA} (h : fn[i]? = some d := by rfl) : ∃ fd, L2.FunD K d.name d.qual d.params d.body d.scope (d.dvs K) (d.kws K) (d.at_ K) fd := by
  have c2 := (He.ba (show (ex K && fn.all fun d => d.ok K) = true from congrArg (fun z : He.AlD => z.1) c)).2
  have e : fn.map (fun d => He5.fnA K (d.at_ K)) = fn.map He5.DefA.val := congrArg (fun z : He.AlD => z.2) c
  have e2 : (fn.map fun d => He5.fnA K (d.at_ K))[i]? = (fn.map He5.DefA.val)[i]? := by rw [e]
  rw [List.getElem?_map, List.getElem?_map, h] at e2
  exact He5.DefA.funD (Option.some.inj e2) (List.all_eq_true.mp c2 d (List.mem_of_getElem? h))
end
/-- a def of the top -/
def gDef (x : Str) (st : Stmt) : He5.DefA := { at_ := fun K => He.ga K x, name := x, qual := x, params := defArgs st, body := defBody st, scope := defScope st }
/-! ### a class with slots -/
def scB (K : PySem.W.Frag) (C : Addr) : Bool := PySem.W.plainGet K C Str.empty && (PySem.W.isClsIn K C && (PySem.W.plainOver K C && He.eqO (PySem.W.findIn K (.ref C) "__setattr__") (some (some (.builtin "object.__setattr__")))))
theorem scB_ok {K : PySem.W.Frag} {C : Addr} (h : scB K C = true) : SlX.SCls K C := by
  obtain ⟨h1, h⟩ := He.ba h
  obtain ⟨h2, h⟩ := He.ba h
  obtain ⟨h3, h4⟩ := He.ba h
  exact ⟨h1, h2, h3, He.eqO_ok h4⟩
def siB (K : PySem.W.Frag) (C : Addr) : Bool := He.eqO (PySem.W.findIn K (.ref C) "__class__") (some (some (.builtin "object.__class__"))) && (He.eqO (PySem.W.specialIn K (.builtin "object.__class__") "__get__") (some (some (.builtin "getset_descriptor.__get__"))) &&
  (decide (PySem.W.takesIn K (.builtin "object.__class__") = some true) && decide (PySem.W.mroIn K C (.type "object") = some true)))
theorem siB_ok {K : PySem.W.Frag} {C : Addr} (h : siB K C = true) : SlX.SIsi K C := by
  obtain ⟨h1, h⟩ := He.ba h
  obtain ⟨h2, h⟩ := He.ba h
  obtain ⟨h3, h4⟩ := He.ba h
  exact ⟨He.eqO_ok h1, He.eqO_ok h2, of_decide_eq_true h3, of_decide_eq_true h4⟩
def slB (K : PySem.W.Frag) (C : Addr) (f : Str) : Bool := He.eqO (PySem.W.findIn K (.ref C) f) (some (some (.ref (He.ma K C f)))) && (He.eqO (PySem.W.specialIn K (.ref (He.ma K C f)) "__get__") (some (some (.builtin "member_descriptor.__get__"))) &&
  (decide (PySem.W.takesIn K (.ref (He.ma K C f)) = some true) && (decide (PySem.W.typeIn K (.ref (He.ma K C f)) = some (.type "member_descriptor")) && (match PySem.W.slotIn K (He.ma K C f) C with
    | some i => decide (i < 1000)
    | none => false))))
theorem slB_ok {K : PySem.W.Frag} {C : Addr} {f : Str} (h : slB K C f = true) : ∃ p i, SlX.Slot1 K C f p i := by
  obtain ⟨h1, h⟩ := He.ba h
  obtain ⟨h2, h⟩ := He.ba h
  obtain ⟨h3, h⟩ := He.ba h
  obtain ⟨h4, h5⟩ := He.ba h
  cases e : PySem.W.slotIn K (He.ma K C f) C with
  | none =>
    rw [e] at h5
    cases h5
  | some i =>
    rw [e] at h5
    exact ⟨_, i, He.eqO_ok h1, He.eqO_ok h2, of_decide_eq_true h3, of_decide_eq_true h4, e, of_decide_eq_true h5⟩
/-- attributes and classmethods read off the class -/
def rdB (K : PySem.W.Frag) (C : Addr) : Bool := PySem.W.readsIn K C (.type "type") && He.eqO (PySem.W.specialIn K (.ref C) "__getattribute__") (some (some (.builtin "type.__getattribute__")))
theorem rdB_ok {K : PySem.W.Frag} {C : Addr} (h : rdB K C = true) : ClX.CRead K C (.type "type") := by
  obtain ⟨h1, h2⟩ := He.ba h
  exact ⟨h1, He.eqO_ok h2⟩
def cmB (K : PySem.W.Frag) (C : Addr) (m : Str) : Bool := He5.wrapB K C "classmethod" "classmethod.__get__" m && PySem.W.fnIn K (He5.wf K C "classmethod" m)
theorem cmB_ok {K : PySem.W.Frag} {C : Addr} {m : Str} (h : cmB K C m = true) : ClX.CMet K C (.type "type") m (He.ma K C m) (He5.wf K C "classmethod" m) := by
  obtain ⟨h1, h2⟩ := He.ba h
  exact He5.cmet_of h1 h2
/-! ### names -/
def freeAll (K : PySem.W.Frag) (xs : List Str) : Bool := xs.all fun x => (He.Fa.free x).ok K
def gloAll (K : PySem.W.Frag) (xs : List Str) : Bool := xs.all fun x => (He.Fa.glo x).ok K
section
variable {K : PySem.W.Frag} {h : Heap} {mg : Str → Option Value}
theorem freeAll_ok (X : K.In h) (G : h.Ns mainGlobals mg) {xs : List Str} (c : freeAll K xs = true) : ∀ x ∈ xs, mg x = none := fun x hx => He.free_ok X G (List.all_eq_true.mp c x hx)
theorem gloAll_ok (X : K.In h) (G : h.Ns mainGlobals mg) {xs : List Str} (c : gloAll K xs = true) {x : Str} (hx : x ∈ xs) : mg x = some (.ref (He.ga K x)) := He.glo_ok X G (List.all_eq_true.mp c x hx)
theorem intC_ok (X : K.In h) (G : h.Ns mainGlobals mg) {x : Str} {i : Int} (c : (He.Fa.int x i).ok K = true) : ∃ u, mg x = some u ∧ RelV (.int i) u := by
  obtain ⟨t, e⟩ := He.int_ok X G c
  exact ⟨_, e, t, rfl⟩
theorem strC_ok (X : K.In h) (G : h.Ns mainGlobals mg) {x z : Str} (c : (He.Fa.str x z).ok K = true) : ∃ u, mg x = some u ∧ RelV (.str z) u := by
  obtain ⟨t, e⟩ := He.str_ok X G c
  exact ⟨_, e, t, rfl⟩
end
end MN
/-! the head's facts in several runs (each a kernel run of its own: the memory of one alone would not do) -/
namespace MN
open PySem PySem.Spec PyProof.Rows L2
/-- one look: a Bool of the fragment, and defs -/
abbrev Look : Type := (PySem.W.Frag → Bool) × List He5.DefA
/-- the fragment is all of the heap below n: to gather what the names reach costs far more memory -/
def obsXR (n : Nat) (ex : PySem.W.Frag → Bool) (fn : List He5.DefA) (g : Addr → Option Obj) : He.AlD := obsX ex fn (He.frG g (List.range n))
def obsL (n : Nat) (ps : List Look) (g : Addr → Option Obj) : List He.AlD := ps.map fun p => obsXR n p.1 p.2 g
def hookL (n : Nat) (ps : List Look) : PySem.W.Hook where
  α := List He.AlD
  obs := fun s => obsL n ps s.heap.get?
  val := fun _ => ps.map fun p => He5.valA p.2
  says := fun _ h => ∃ K : PySem.W.Frag, K.In h ∧ ∀ p ∈ ps, SaysX p.1 p.2 K
  of := fun w s e => ⟨_, He.frG_in, fun p hp => by
    have e' : ps.map (fun p => obsXR n p.1 p.2 s.heap.get?) = ps.map fun p => He5.valA p.2 := e
    exact List.map_inj_left.mp e' p hp⟩
  keeps := fun _ _ _ ⟨K, hK, c⟩ k => ⟨K, PySem.W.Frag.In.keeps hK k, c⟩
def obL (n : Nat) (ps : List Look) (s : PySem.W.SharedT) : List He.AlD := obsL n ps (HandSHeadRun.getT s)
theorem obL_eq (n : Nat) (ps : List Look) (s : PySem.W.SharedT) : obL n ps s = (hookL n ps).obs s.abs := by
  have e : HandSHeadRun.getT s = s.abs.heap.get? := funext (HandSHeadRun.getT_eq s)
  show obsL n ps (HandSHeadRun.getT s) = obsL n ps s.abs.heap.get?
  rw [e]
section
variable (r : PySem.W.OpenRow) (M : Nat)
/-- the top's end -/
noncomputable abbrev endQ (w : World) (os : OsState) : Option PySem.W.SharedT := HandSHeadRun.endF (HandSHeadRun.stepQ (HandSHeadRun.denQ HandSHeadRun.tabQ) r.prog w) M r.prog w os
def RunL : Prop := ∀ w os, (endQ r M w os).map (fun s => HandSHeadRun.looksF r.prog (PySem.W.boot_heap w.params) s.abs) = some true
def RunN (q : Program) (loose : List Str) : Prop := ∀ w os, (endQ r M w os).map (fun s => HandSHeadRun.seenQ q loose (importedModules r.prog.main.body) (fun s => PySem.W.xlAt q [] s && PySem.W.recOk r.toRowW.records s) s.abs) = some (PySem.W.openGood q loose)
def RunP (n : Nat) (p : Look) : Prop := ∀ w os, (endQ r M w os).map (fun s => obsXR n p.1 p.2 (HandSHeadRun.getT s)) = some (He5.valA p.2)
theorem run_of {q : Program} {loose : List Str} {n : Nat} {ps : List Look} (h1 : RunL r M) (h2 : RunN r M q loose) (h3 : ∀ p ∈ ps, RunP r M n p) (w : World) : HandSHeadRun.RunEq r q (hookL n ps) (obL n ps) M loose w := by
  intro os
  obtain ⟨s, hs, l1⟩ := Option.map_eq_some_iff.mp (h1 w os)
  have l2 := h2 w os
  rw [hs] at l2
  have l3 : obL n ps s = ps.map fun p => He5.valA p.2 := by
    refine List.map_congr_left fun p hp => ?_
    have l := h3 p hp w os
    rw [hs] at l
    exact Option.some.inj l
  have l2' := Option.some.inj l2
  show (endQ r M w os).map _ = _
  rw [hs]
  exact congrArg some (Prod.ext l1 (Prod.ext l2' l3))
end
end MN
/-! the law's draws: whatever is drawn lies in its bounds -/
namespace MN
open PySem PySem.Spec PyProof.Rows L2
abbrev potO (a b c : Int) : HO := .lst [.int a, .int b, .int c]
def Pot (H : Hp) (p : Addr) : Prop := ∃ a b c, H p = some (potO a b c)
/-- all but the pot is as it was; the pot is one still -/
structure Ex (p : Addr) (H H' : Hp) : Prop where
  keep : ∀ b o, b ≠ p → H b = some o → H' b = some o
  pot : Pot H' p
theorem Pot.upd {H : Hp} {p : Addr} {a b c : Int} : Pot (L2.upd H p (potO a b c)) p := ⟨a, b, c, upd_same⟩
theorem Ex.turn {H : Hp} {p : Addr} {a b c : Int} : Ex p H (L2.upd H p (potO a b c)) := ⟨fun b o hb e => by rw [upd_ne hb]; exact e, .upd⟩
theorem Ex.trans {p : Addr} {H H1 H2 : Hp} (a : Ex p H H1) (b : Ex p H1 H2) : Ex p H H2 := ⟨fun x o hx e => b.keep x o hx (a.keep x o hx e), b.pot⟩
theorem Ex.new {p q : Addr} {H H1 : Hp} {o : HO} (a : Ex p H H1) (hq : H1 q = none) : Ex p H (L2.upd H1 q o) := by
  obtain ⟨x, y, z, hp⟩ := a.pot
  exact ⟨fun b u hb e => by rw [upd_ne (ne_of_none (a.keep b u hb e) hq)]; exact a.keep b u hb e, x, y, z, by rw [upd_ne (ne_of_none hp hq)]; exact hp⟩
theorem Ex.same {p : Addr} {H H1 H2 : Hp} (a : Ex p H H1) (s : Same H1 H2) : Ex p H H2 := by
  obtain ⟨x, y, z, hp⟩ := a.pot
  exact ⟨fun b u hb e => s _ _ (a.keep b u hb e), x, y, z, s _ _ hp⟩
theorem Ex.refl {p : Addr} {H : Hp} (h : Pot H p) : Ex p H H := ⟨fun _ _ _ e => e, h⟩
theorem Ex.free {p q : Addr} {H H1 : Hp} (a : Ex p H H1) (hp : Pot H p) (hq : H1 q = none) : H q = none := by
  cases e : H q with
  | none => rfl
  | some o =>
    by_cases z : q = p
    · subst z
      obtain ⟨x, y, w, h⟩ := a.pot
      rw [h] at hq; cases hq
    · rw [a.keep q o z e] at hq; cases hq
/-- an object that stands, or a new one, may be changed -/
theorem Ex.put {p q : Addr} {H H1 : Hp} {o : HO} (a : Ex p H H1) (hq : H q = none) (hne : q ≠ p) : Ex p H (L2.upd H1 q o) := by
  obtain ⟨x, y, z, hp⟩ := a.pot
  exact ⟨fun b u hb e => by rw [upd_ne (ne_of_none e hq)]; exact a.keep b u hb e, x, y, z, by rw [upd_ne (Ne.symm hne)]; exact hp⟩
theorem Ex.seqL {K : PySem.W.Frag} {p : Addr} {H H' : Hp} {a : Addr} {xs : List V} (e : Ex p H H') (h : SqL K H a xs) (hne : a ≠ p) : SqL K H' a xs := by
  rcases h with (h | ⟨o, h⟩) | h
  · exact .inl (.inl (e.keep _ _ hne h))
  · exact .inl (.inr ⟨o, e.keep _ _ hne h⟩)
  · exact .inr h
theorem Ex.seqT {K : PySem.W.Frag} {p : Addr} {H H' : Hp} {a : Addr} {xs : List V} (e : Ex p H H') (h : SqT K H a xs) (hne : a ≠ p) : SqT K H' a xs := by
  rcases h with (h | ⟨o, h⟩) | h
  · exact .inl (.inl (e.keep _ _ hne h))
  · exact .inl (.inr ⟨o, e.keep _ _ hne h⟩)
  · exact .inr h
theorem atI_int {ns : List Int} {i : Int} (h0 : 0 ≤ i) (h : i < (ns.map V.int).length) : ∃ x : Int, atI (ns.map V.int) i = some (.int x) := by
  obtain ⟨j, rfl⟩ : ∃ j : Nat, i = j := ⟨i.toNat, by omega⟩
  rw [List.length_map] at h
  have hj : j < ns.length := by omega
  exact ⟨ns[j], atI_nat (by rw [List.getElem?_map, List.getElem?_eq_getElem hj]; rfl)⟩
theorem atI_some {α : Type} {xs : List α} {r : Int} (h0 : 0 ≤ r) (h1 : r < (xs.length : Int)) : ∃ v, v ∈ xs ∧ xs[r.toNat]? = some v ∧ atI xs r = some v := by
  obtain ⟨j, rfl⟩ : ∃ j : Nat, r = j := ⟨r.toNat, by omega⟩
  have hj : j < xs.length := by omega
  exact ⟨xs[j], List.getElem_mem hj, by simp [hj], atI_nat (List.getElem?_eq_getElem hj)⟩
theorem perm_erase {α : Type} : ∀ {xs : List α} {k : Nat} {y : α}, xs[k]? = some y → (y :: xs.eraseIdx k).Perm xs
  | x :: xs, 0, y, h => by
    cases (show some x = some y from h)
    exact List.Perm.refl _
  | x :: xs, k + 1, y, h => by
    have ih := perm_erase (xs := xs) (k := k) (y := y) (by simpa using h)
    exact (List.Perm.swap x y _).trans (ih.cons x)
theorem seqIx {r : Int} {n : Nat} (h0 : 0 ≤ r) (h1 : r < n) : seqIndex? r n = some r.toNat := by
  unfold seqIndex?
  simp [show ¬ r < 0 by omega, h0, h1]
theorem join_signs (cs : List Nat) : (Txt.join "" (cs.map fun c => (⟨#[c]⟩ : Str))).cps.toList = cs := by
  rw [TL.join_eq]
  show TL.tl (Str.join "" (cs.map fun c => (⟨#[c]⟩ : Str))) = cs
  rw [TL.tl_join, List.map_map]
  have h : ∀ cs : List Nat, TL.joinL [] (cs.map (TL.tl ∘ fun c => (⟨#[c]⟩ : Str))) = cs := by
    intro cs
    induction cs with
    | nil => rfl
    | cons c cs ih =>
      cases cs with
      | nil => rfl
      | cons d r =>
        show [c] ++ ([] ++ TL.joinL [] ((d :: r).map (TL.tl ∘ fun c => (⟨#[c]⟩ : Str)))) = c :: d :: r
        rw [ih]; rfl
  exact h cs
/-! ### _law_word -/
def spDip : Sp := fun vs H Q _ => ∃ p n a b c, vs = [.ref p, .int n] ∧ H p = some (potO a b c) ∧ 0 < n ∧ n < 1000000 ∧ ∀ r a' b' c', 0 ≤ r → r < n → Q (.int r) (upd H p (potO a' b' c'))
def spFilled (K : PySem.W.Frag) : Sp := fun vs H Q _ => ∃ (a : Addr) (i : Int) (ns : List Int), vs = [.ref a, .int i] ∧ SqL K H a (ns.map V.int) ∧ 0 ≤ i ∧ i < 1000 ∧ ∀ q H', H q = none → Same H H' → Pot H' q → Q (.ref q) H'
def spChoose (K : PySem.W.Frag) : Sp := fun vs H Q _ => ∃ p x, vs = [.ref p, x] ∧ Pot H p ∧ ((∃ z : Str, x = .str z ∧ 0 < z.length ∧ z.length < 100000 ∧ ∀ c a' b' c', c ∈ z.cps.toList → Q (.str ⟨#[c]⟩) (upd H p (potO a' b' c'))) ∨
  (∃ l xs, x = .ref l ∧ l ≠ p ∧ SqL K H l xs ∧ 0 < xs.length ∧ xs.length < 100000 ∧ ∀ v a' b' c', v ∈ xs → Q v (upd H p (potO a' b' c'))))
end MN
/-! the draws of the laws k00 .. k04 -/
namespace MN
open PySem PySem.Spec PyProof.Rows L2
section
variable {P : Program} {w : World} {K : PySem.W.Frag} {mg : Str → Option Value} {base : Heap}
/-! ### _law_dip -/
abbrev N_law_dip : List Str := ["_law_pot", "_law_total", "_law_found", "_law_one", "_law_two"]
theorem sc_law_dip : FnScope N_law_dip ["_law_pot", "_law_total"] (defScope (top 29)) := ⟨rfl, rfl, rfl, by decide +kernel, rfl, by decide +kernel, by decide +kernel⟩
theorem c_law_dip (A : At K mg "_law_dip" (top 29)) (B : Blt mg) : Cal P w K mg base 1 "_law_dip" spDip := by
  refine cal_of A sc_law_dip (fun _ _ _ _ _ _ us hl => match us, hl with | [_, _], _ => rfl) (fun vs H Q E h => ?_) (fun _ cdv A outer s H vs Q E hr h => ?_)
  · obtain ⟨_, _, _, _, _, rfl, _⟩ := h; rfl
  · obtain ⟨p, n, a, b, c, rfl, hp, h0, h1, hQ⟩ := h
    refine ⟨_, (pss_cons (ps_if (pt_cmpR op_gt (pe_ix ix_list (pv 0) pe_int (fun _ _ => rfl)) pe_int (nomark _))
      (pss_cons (ps_set (i := 2) sc_law_dip.nd rfl (Or.inl rfl) (pe_op op_mod (pe_callTy call_int1 (by rfl) B.int (by decide +kernel) (pa_cons (pe_ix ix_list (pv 0) pe_int (fun _ _ => rfl)) pa_nil)) (pv 1)))
      (pss_cons (ps_asg (pe_op op_fdiv (pe_ix ix_list (pv 0) pe_int (fun _ _ => rfl)) (pv 1)) (pg_sub (pv 0) pe_int set_list))
      (pss_one (ps_ret (pv 2)))))
      pss_nil)
      (pss_cons (ps_asg (pe_op op_add (pe_ix ix_list (pv 0) pe_int (fun _ _ => rfl)) pe_int) (pg_sub (pv 0) pe_int set_list))
      (pss_cons (ps_set (i := 3) sc_law_dip.nd rfl (Or.inl rfl) (pe_op op_mod (pe_callTy call_int1 (by rfl) B.int (by decide +kernel) (pa_cons (pe_op op_add (pe_op op_mul (pe_ix ix_list (pv 0) pe_int (fun _ _ => rfl)) pe_int) (pe_op op_mul (pe_ix ix_list (pv 0) pe_int (fun _ _ => rfl)) pe_int)) pa_nil)) pe_int))
      (pss_cons (ps_set (i := 4) sc_law_dip.nd rfl (Or.inl rfl) (pe_op op_mod (pe_callTy call_int1 (by rfl) B.int (by decide +kernel) (pa_cons (pe_op op_add (pe_op op_mul (pv 3) (pv 3)) (pe_op op_mul pe_int (pe_ix ix_list (pv 0) pe_int (fun _ _ => rfl)))) pa_nil)) pe_int))
      (pss_one (ps_ret (pe_op op_mod (pe_callTy call_int1 (by rfl) B.int (by decide +kernel) (pa_cons (pe_op op_fdiv (pe_op op_mod (pe_callTy call_int1 (by rfl) B.int (by decide +kernel) (pa_cons (pe_op op_add (pe_op op_mul (pv 4) pe_int) (pv 3)) pa_nil)) pe_int) pe_int) pa_nil)) (pv 1)))))))), ?_⟩
    refine ⟨_, rfl, p, _, _, _, rfl, rfl, SqL.of hp, rfl, _, _, rfl, rfl, _, rfl, ?_⟩
    refine ite2 (fun _ => ?_) (fun _ => ?_)
    · refine ⟨_, rfl, p, _, _, _, rfl, rfl, SqL.of hp, rfl, .inl ⟨_, rfl, _, rfl, _, _, rfl, rfl, h0, ?_⟩⟩
      refine ⟨_, rfl, p, _, _, _, rfl, rfl, SqL.of hp, rfl, _, rfl, _, _, rfl, rfl, ⟨h0, by omega⟩, _, rfl, p, _, _, 0, rfl, rfl, hp, rfl, ?_⟩
      exact ⟨_, rfl, hQ _ _ _ _ (Int.emod_nonneg _ (by omega)) (Int.emod_lt_of_pos _ h0)⟩
    · refine ⟨_, rfl, p, _, _, _, rfl, rfl, SqL.of hp, rfl, _, _, rfl, rfl, _, rfl, p, _, _, 2, rfl, rfl, hp, rfl, ?_⟩
      have hp1 : upd H p (.lst (List.set [V.int a, V.int b, V.int c] 2 (.int (c + 1)))) p = some (potO a b (c + 1)) := upd_same
      refine ⟨_, rfl, p, _, _, _, rfl, rfl, SqL.of hp1, rfl, _, _, rfl, rfl, .inr ⟨by decide, by decide⟩, _, rfl, p, _, _, _, rfl, rfl, SqL.of hp1, rfl, _, _, rfl, rfl, .inr ⟨by decide, by decide⟩, _, _, rfl, rfl, .inl ⟨_, rfl, _, _, rfl, rfl, (show (0 : Int) < 2305843009213693951 by decide), ?_⟩⟩
      have hb : ∀ x : Int, -(2 ^ 64) < x % 2305843009213693951 ∧ x % 2305843009213693951 < 2 ^ 64 := fun x => by omega
      refine ⟨_, rfl, _, rfl, _, _, rfl, rfl, .inl (hb _), _, rfl, _, _, _, _, rfl, rfl, SqL.of hp1, rfl, _, _, rfl, rfl, .inl ⟨by decide, by decide⟩, _, _, rfl, rfl, .inl ⟨_, rfl, _, _, rfl, rfl, (show (0 : Int) < 1152921504606846883 by decide), ?_⟩⟩
      refine ⟨_, rfl, _, _, rfl, rfl, .inr ⟨by decide, by decide⟩, _, rfl, _, _, rfl, rfl, .inl ⟨_, rfl, _, _, rfl, rfl, (show (0 : Int) < 4611686018427387847 by decide), _, _, rfl, rfl, ⟨by decide, by decide⟩, .inl ⟨_, rfl, _, rfl, _, _, rfl, rfl, h0, ?_⟩⟩⟩
      exact hQ _ a b (c + 1) (Int.emod_nonneg _ (by omega)) (Int.emod_lt_of_pos _ h0)
/-! ### _law_filled -/
abbrev N_law_filled : List Str := ["_law_script", "_law_at", "_law_cell", "_law_whole", "_law_mixed"]
theorem sc_law_filled : FnScope N_law_filled ["_law_script", "_law_at"] (defScope (top 28)) := ⟨rfl, rfl, rfl, by decide +kernel, rfl, by decide +kernel, by decide +kernel⟩
theorem c_law_filled (A : At K mg "_law_filled" (top 28)) (B : Blt mg) : Cal P w K mg base 1 "_law_filled" (spFilled K) := by
  refine cal_of A sc_law_filled (fun _ _ _ _ _ _ us hl => match us, hl with | [_, _], _ => rfl) (fun vs H Q E h => ?_) (fun _ cdv A outer s H vs Q E hr h => ?_)
  · obtain ⟨_, _, _, rfl, _⟩ := h; rfl
  · obtain ⟨a, i, ns, rfl, ha, h0, h1, hQ⟩ := h
    refine ⟨_, (pss_cons (ps_set (i := 2) sc_law_filled.nd rfl (Or.inl rfl) (pe_ifExp (pt_cmpR op_lt (pv 1) (pe_callB call_len_seq (by rfl) B.len (by decide +kernel) (pa_cons (pv 0) pa_nil)) (nomark _)) (pe_ix ix_list (pv 0) (pv 1) (fun _ _ => rfl)) (pe_op op_add (pe_op op_mul pe_int (pv 1)) pe_int)))
      (pss_cons (ps_set (i := 3) sc_law_filled.nd rfl (Or.inl rfl) (pe_op op_mod (pe_callTy call_int1 (by rfl) B.int (by decide +kernel) (pa_cons (pe_callB call_abs (by rfl) B.abs (by decide +kernel) (pa_cons (pv 2) pa_nil)) pa_nil)) (pe_op op_powB (pe_op op_powB pe_int pe_int) pe_int)))
      (pss_cons (ps_set (i := 4) sc_law_filled.nd rfl (Or.inl rfl) (pe_op op_mod (pe_callTy call_int1 (by rfl) B.int (by decide +kernel) (pa_cons (pe_op op_add (pe_op op_add (pe_op op_add (pv 3) (pe_op op_mul pe_int (pv 1))) (pe_op op_mul pe_int (pe_callTy call_int1 (by rfl) B.int (by decide +kernel) (pa_cons (pe_cmpR op_lt (pv 2) pe_int (nomark _)) pa_nil)))) pe_int) pa_nil)) pe_int))
      (pss_one (ps_ret (pe_lst (pa_cons (pe_callB (call_max2 rfl) (by rfl) B.max (by decide +kernel) (pa_cons pe_int (pa_cons (pe_op op_sub (pv 3) (pe_op op_powB pe_int pe_int)) pa_nil))) (pa_cons (pv 4) (pa_cons pe_int pa_nil))))))))), ?_⟩
    refine ⟨_, rfl, _, rfl, a, _, rfl, .inl ha, _, _, rfl, rfl, _, rfl, ?_⟩
    refine ite2 (fun hc => ?_) (fun hc => ?_)
    · obtain ⟨x, hx⟩ := atI_int h0 (of_decide_eq_true hc)
      refine ⟨_, rfl, _, rfl, a, _, _, _, rfl, rfl, ha, hx, ?_⟩
      refine ⟨_, rfl, _, rfl, .inl ⟨_, rfl, _, _, rfl, rfl, ⟨by decide, by decide +kernel⟩, _, _, rfl, rfl, ⟨by decide, by decide +kernel⟩, _, _, rfl, rfl, ?_, ?_⟩⟩
      · show (0 : Int) < (10 ^ 60) ^ 10
        decide
      refine ⟨_, rfl, _, rfl, _, _, rfl, rfl, .inl ⟨by decide, by decide⟩, _, _, rfl, rfl, _, rfl, _, _, rfl, rfl, .inr ⟨_, rfl, _, _, rfl, rfl, .inl ⟨by decide, by decide⟩, _, _, rfl, rfl, _, _, rfl, rfl, .inl ⟨_, rfl, _, _, rfl, rfl, (show (0 : Int) < 2305843009213693921 by decide), ?_⟩⟩⟩
      refine ⟨_, rfl, _, _, rfl, rfl, ⟨by decide, by decide +kernel⟩, _, _, rfl, rfl, _, _, rfl, _, rfl, (by show 3 ≤ sizeLine; decide), fun q hq => ?_⟩
      exact hQ q _ hq (same_new hq) ⟨_, _, _, upd_same⟩
    · refine ⟨_, rfl, _, _, rfl, rfl, .inl ⟨by decide, by decide⟩, _, _, rfl, rfl, ?_⟩
      refine ⟨_, rfl, _, rfl, .inl ⟨_, rfl, _, _, rfl, rfl, ⟨by decide, by decide +kernel⟩, _, _, rfl, rfl, ⟨by decide, by decide +kernel⟩, _, _, rfl, rfl, ?_, ?_⟩⟩
      · show (0 : Int) < (10 ^ 60) ^ 10
        decide
      refine ⟨_, rfl, _, rfl, _, _, rfl, rfl, .inl ⟨by decide, by decide⟩, _, _, rfl, rfl, _, rfl, _, _, rfl, rfl, .inr ⟨_, rfl, _, _, rfl, rfl, .inl ⟨by decide, by decide⟩, _, _, rfl, rfl, _, _, rfl, rfl, .inl ⟨_, rfl, _, _, rfl, rfl, (show (0 : Int) < 2305843009213693921 by decide), ?_⟩⟩⟩
      refine ⟨_, rfl, _, _, rfl, rfl, ⟨by decide, by decide +kernel⟩, _, _, rfl, rfl, _, _, rfl, _, rfl, (by show 3 ≤ sizeLine; decide), fun q hq => ?_⟩
      exact hQ q _ hq (same_new hq) ⟨_, _, _, upd_same⟩
end
end MN
/-! _law_choose of the laws k00 .. k04 -/
namespace MN
open PySem PySem.Spec PyProof.Rows L2
section
variable {P : Program} {w : World} {K : PySem.W.Frag} {mg : Str → Option Value} {base : Heap}
/-! ### _law_choose -/
abbrev N_law_choose : List Str := ["_law_pot", "_law_items"]
theorem sc_law_choose : FnScope N_law_choose ["_law_pot", "_law_items"] (defScope (top 30)) := ⟨rfl, rfl, rfl, by decide +kernel, rfl, by decide +kernel, by decide +kernel⟩
theorem c_law_choose (A : At K mg "_law_choose" (top 30)) (B : Blt mg) (c_law_dip : Cal P w K mg base 1 "_law_dip" spDip) : Cal P w K mg base 2 "_law_choose" (spChoose K) := by
  refine cal_of A sc_law_choose (fun _ _ _ _ _ _ us hl => match us, hl with | [_, _], _ => rfl) (fun vs H Q E h => ?_) (fun _ cdv A outer s H vs Q E hr h => ?_)
  · obtain ⟨_, _, rfl, _⟩ := h; rfl
  · obtain ⟨p, x, rfl, ⟨a, b, c, hp⟩, hx⟩ := h
    refine ⟨_, (pss_one (ps_ret (pe_ix ix_seq (pv 1) (pe_c c_law_dip hr (by decide) (by rfl) (pa_cons (pv 0) (pa_cons (pe_callB call_len (by rfl) B.len (by decide +kernel) (pa_cons (pv 1) pa_nil)) pa_nil))) (fun _ _ => rfl)))), ?_⟩
    rcases hx with ⟨z, rfl, h0, h1, hQ⟩ | ⟨l, xs, rfl, hne, hl, h0, h1, hQ⟩
    · refine ⟨_, rfl, _, rfl, _, rfl, _, z.length, rfl, ⟨Nat.le_trans (Nat.le_of_lt h1) (by decide), rfl⟩, p, _, a, b, c, rfl, hp, by omega, by omega, fun r a' b' c' r0 r1 => ?_⟩
      have hz : (z.cps.toList.length : Int) = z.length := by simp [Str.length]
      obtain ⟨v, hv, _, hat⟩ := atI_some (xs := z.cps.toList) r0 (by omega)
      exact .inr (.inr ⟨z, r, v, rfl, rfl, Nat.le_trans (Nat.le_of_lt h1) (by decide), hat, hQ v a' b' c' hv⟩)
    · refine ⟨_, rfl, _, rfl, _, rfl, _, xs.length, rfl, .inl ⟨xs, hl, rfl⟩, p, _, a, b, c, rfl, hp, by omega, by omega, fun r a' b' c' r0 r1 => ?_⟩
      obtain ⟨v, hv, _, hat⟩ := atI_some (xs := xs) r0 r1
      refine .inl ⟨l, xs, r, v, rfl, rfl, ?_, hat, hQ v a' b' c' hv⟩
      exact (Ex.turn (H := H) (p := p)).seqL hl hne
end
end MN
/-! all words in order: plain -/
namespace MN
open PySem
def e0 : Str := Str.ofString ""
def kids (zs : List Str) (w : Str) : List Str := zs.map fun z => w ++ z
def lvl (zs : List Str) : Nat → List Str
  | 0 => [e0]
  | n + 1 => (lvl zs n).flatMap (kids zs)
def allW (zs : List Str) : Nat → List Str
  | 0 => [e0]
  | n + 1 => allW zs n ++ lvl zs (n + 1)
def tot (m : Nat) : Nat → Nat
  | 0 => 1
  | n + 1 => tot m n + m ^ (n + 1)
theorem allW_succ (zs : List Str) (n : Nat) : allW zs (n + 1) = e0 :: (allW zs n).flatMap (kids zs) := by
  induction n with
  | zero => rfl
  | succ n ih =>
    show allW zs (n + 1) ++ lvl zs (n + 2) = _
    rw [show lvl zs (n + 2) = (lvl zs (n + 1)).flatMap (kids zs) from rfl]
    conv => lhs; rw [ih]
    rw [List.cons_append, ← List.flatMap_append]
    rfl
theorem lvl_length (zs : List Str) (n : Nat) : (lvl zs n).length = zs.length ^ n := by
  induction n with
  | zero => rfl
  | succ n ih =>
    show ((lvl zs n).flatMap (kids zs)).length = _
    rw [List.length_flatMap]
    have : ((lvl zs n).map fun a => (kids zs a).length) = (lvl zs n).map fun _ => zs.length := by
      apply List.map_congr_left
      intro a _
      simp [kids]
    have s : ∀ l : List Str, (l.map fun _ => zs.length).sum = l.length * zs.length := by
      intro l
      induction l with
      | nil => simp
      | cons a l ih2 => rw [List.map_cons, List.sum_cons, ih2, List.length_cons, Nat.succ_mul]; omega
    rw [this, s, ih, Nat.pow_succ]
theorem allW_length (zs : List Str) (n : Nat) : (allW zs n).length = tot zs.length n := by
  induction n with
  | zero => rfl
  | succ n ih =>
    show (allW zs n ++ lvl zs (n + 1)).length = tot zs.length n + zs.length ^ (n + 1)
    rw [List.length_append, ih, lvl_length]
theorem flat_get {α β : Type} (f : α → Str → β) (zs : List Str) (hm : 0 < zs.length) : ∀ (l : List α) (i : Nat), (l.flatMap fun w => zs.map (f w))[i]? = (l[i / zs.length]?).bind fun w => (zs[i % zs.length]?).map (f w) := by
  intro l
  induction l with
  | nil => intro i; simp
  | cons a l ih =>
    intro i
    rw [List.flatMap_cons]
    by_cases h : i < zs.length
    · rw [List.getElem?_append_left (by simpa using h), Nat.div_eq_of_lt h, Nat.mod_eq_of_lt h]
      simp
    · have h' : zs.length ≤ i := Nat.le_of_not_lt h
      rw [List.getElem?_append_right (by simpa using h'), List.length_map, ih]
      have e1 : i / zs.length = (i - zs.length) / zs.length + 1 := by
        rw [Nat.div_eq i zs.length, if_pos ⟨hm, h'⟩]
      have e2 : (i - zs.length) % zs.length = i % zs.length := (Nat.mod_eq_sub_mod h').symm
      rw [e1, e2, List.getElem?_cons_succ]
theorem allW_next {zs : List Str} (hm : 0 < zs.length) {n i : Nat} : (allW zs (n + 1))[i + 1]? = ((allW zs n)[i / zs.length]?).bind fun w => (zs[i % zs.length]?).map fun z => w ++ z := by
  rw [allW_succ, List.getElem?_cons_succ]
  exact flat_get (fun w z => w ++ z) zs hm _ _
theorem allW_zero (zs : List Str) (n : Nat) : (allW zs n)[0]? = some e0 := by
  cases n with
  | zero => rfl
  | succ n => rw [allW_succ]; rfl
/-- the law's own number: k rounds -/
def numW (zs : List Str) : Nat → Nat → Str → Str
  | 0, _, acc => acc
  | k + 1, i, acc => if 0 < i then numW zs k ((i - 1) / zs.length) ((zs[(i - 1) % zs.length]?).getD e0 ++ acc) else numW zs k i acc
theorem numW_zero (zs : List Str) (k : Nat) (acc : Str) : numW zs k 0 acc = acc := by
  induction k with
  | zero => rfl
  | succ k ih => show (if 0 < 0 then _ else _) = _; rw [if_neg (Nat.lt_irrefl 0)]; exact ih
theorem numW_ok {zs : List Str} (hm : 0 < zs.length) : ∀ (n k i : Nat) (w acc : Str), n ≤ k → (allW zs n)[i]? = some w → numW zs k i acc = w ++ acc := by
  intro n
  induction n with
  | zero =>
    intro k i w acc _ h
    match i, h with
    | 0, h =>
      have : w = e0 := (Option.some.inj h).symm
      rw [numW_zero, this]
      exact (Str.empty_append acc).symm
  | succ n ih =>
    intro k i w acc hk h
    match k, hk with
    | k + 1, hk =>
      match i, h with
      | 0, h =>
        rw [allW_zero] at h
        have : w = e0 := (Option.some.inj h).symm
        rw [numW_zero, this]
        exact (Str.empty_append acc).symm
      | i + 1, h =>
        rw [allW_next hm] at h
        obtain ⟨v, h1, h2⟩ := Option.bind_eq_some_iff.mp h
        obtain ⟨z, h3, h4⟩ := Option.map_eq_some_iff.mp h2
        show (if 0 < i + 1 then numW zs k ((i + 1 - 1) / zs.length) ((zs[(i + 1 - 1) % zs.length]?).getD e0 ++ acc) else _) = _
        rw [if_pos (Nat.succ_pos i), Nat.add_sub_cancel, h3, ih k _ v _ (by omega) h1, ← h4]
        exact (Str.append_assoc v z acc).symm
theorem allW_take (zs : List Str) (n : Nat) : (allW zs (n + 1)).take (tot zs.length n) = allW zs n := by
  show (allW zs n ++ lvl zs (n + 1)).take _ = _
  rw [← allW_length zs n]
  exact List.take_left' rfl
/-- ascending signs -/
structure SgnOk (zs : List Str) : Prop where
  asc : zs.Pairwise fun a b => a.cps.toList < b.cps.toList
  one : ∀ z ∈ zs, ∃ c ∈ ("abcde" : Str).cps.toList, z = ⟨#[c]⟩
  pos : 0 < zs.length
  le : zs.length ≤ 5
theorem cpsL_append (a b : Str) : (a ++ b).cps.toList = a.cps.toList ++ b.cps.toList := by
  show (a.cps ++ b.cps).toList = _
  simp
theorem strLen_app (a b : Str) : (a ++ b).length = a.length + b.length := Str.length_append a b
theorem lex_same (a : List Nat) {s t : List Nat} (h : s < t) : a ++ s < a ++ t := by
  induction a with
  | nil => exact h
  | cons x a ih => exact List.cons_lt_cons_iff.mpr (.inr ⟨rfl, ih⟩)
theorem lex_app : ∀ {a b : List Nat} {s t : List Nat}, a.length = b.length → a < b → a ++ s < b ++ t
  | [], [], _, _, _, h => absurd h (List.lt_irrefl _)
  | x :: a, y :: b, s, t, hl, h => by
    rcases List.cons_lt_cons_iff.mp h with h | ⟨h1, h2⟩
    · exact List.cons_lt_cons_iff.mpr (.inl h)
    · exact List.cons_lt_cons_iff.mpr (.inr ⟨h1, lex_app (by simpa using hl) h2⟩)
theorem one_len {zs : List Str} (h : SgnOk zs) {z : Str} (hz : z ∈ zs) : z.length = 1 := by
  obtain ⟨c, _, rfl⟩ := h.one z hz
  rfl
theorem lvl_len {zs : List Str} (h : SgnOk zs) : ∀ (n : Nat) (w : Str), w ∈ lvl zs n → w.length = n := by
  intro n
  induction n with
  | zero => intro w hw; rw [List.mem_singleton.mp hw]; rfl
  | succ n ih =>
    intro w hw
    obtain ⟨v, hv, hw⟩ := List.mem_flatMap.mp hw
    obtain ⟨z, hz, rfl⟩ := List.mem_map.mp hw
    rw [strLen_app, ih v hv, one_len h hz]
theorem lvl_asc {zs : List Str} (h : SgnOk zs) (n : Nat) : (lvl zs n).Pairwise fun a b => a.cps.toList < b.cps.toList := by
  induction n with
  | zero => exact List.pairwise_singleton _ _
  | succ n ih =>
    show ((lvl zs n).flatMap (kids zs)).Pairwise _
    refine List.pairwise_flatMap.mpr ⟨fun a ha => ?_, ?_⟩
    · refine List.pairwise_map.mpr (h.asc.imp fun {s t} hst => ?_)
      rw [cpsL_append, cpsL_append]
      exact lex_same _ hst
    · refine ih.imp_of_mem fun {a b} ha hb hab x hx y hy => ?_
      obtain ⟨s, hs, rfl⟩ := List.mem_map.mp hx
      obtain ⟨t, ht, rfl⟩ := List.mem_map.mp hy
      rw [cpsL_append, cpsL_append]
      refine lex_app ?_ hab
      have h1 := lvl_len h n a ha
      have h2 := lvl_len h n b hb
      have e1 : a.cps.toList.length = a.length := by simp [Str.length]
      have e2 : b.cps.toList.length = b.length := by simp [Str.length]
      omega
theorem allW_len {zs : List Str} (h : SgnOk zs) : ∀ (n : Nat) (w : Str), w ∈ allW zs n → w.length ≤ n := by
  intro n
  induction n with
  | zero => intro w hw; rw [List.mem_singleton.mp hw]; exact Nat.le_refl _
  | succ n ih =>
    intro w hw
    rcases List.mem_append.mp hw with hw | hw
    · have := ih w hw; omega
    · have := lvl_len h _ w hw; omega
theorem allW_asc {zs : List Str} (h : SgnOk zs) (n : Nat) : (allW zs n).Pairwise ahead := by
  induction n with
  | zero => exact List.pairwise_singleton _ _
  | succ n ih =>
    refine List.pairwise_append.mpr ⟨ih, (lvl_asc h (n + 1)).imp_of_mem fun {a b} ha hb hab => .inr ⟨?_, hab⟩, fun a ha b hb => .inl ?_⟩
    · rw [lvl_len h _ a ha, lvl_len h _ b hb]
    · have h1 := allW_len h n a ha
      have h2 := lvl_len h _ b hb
      omega
theorem lvl_word {zs : List Str} (h : SgnOk zs) : ∀ (n : Nat) (w : Str), w ∈ lvl zs n → isWordS w = true := by
  intro n
  induction n with
  | zero => intro w hw; rw [List.mem_singleton.mp hw]; rfl
  | succ n ih =>
    intro w hw
    obtain ⟨v, hv, hw⟩ := List.mem_flatMap.mp hw
    obtain ⟨z, hz, rfl⟩ := List.mem_map.mp hw
    obtain ⟨c, hc, rfl⟩ := h.one z hz
    unfold isWordS
    rw [cpsL_append, List.all_append, Bool.and_eq_true]
    refine ⟨ih v hv, ?_⟩
    simp [sgn, hc]
theorem allW_word {zs : List Str} (h : SgnOk zs) : ∀ (n : Nat) (w : Str), w ∈ allW zs n → isWordS w = true := by
  intro n
  induction n with
  | zero => intro w hw; rw [List.mem_singleton.mp hw]; rfl
  | succ n ih =>
    intro w hw
    rcases List.mem_append.mp hw with hw | hw
    · exact ih w hw
    · exact lvl_word h _ w hw
theorem ord_allW {zs ws : List Str} (h : SgnOk zs) {n : Nat} (hp : ws.Perm (allW zs n)) : ord ws = allW zs n :=
  sorted_one (ord_sorted ws) (allW_asc h n) fun x => mem_ord.trans hp.mem_iff
theorem tot_le {m n : Nat} (hm : m ≤ 5) (hn : n ≤ 8) : tot m n ≤ 488281 := by
  have mono : ∀ n, tot m n ≤ tot 5 n := by
    intro n
    induction n with
    | zero => exact Nat.le_refl _
    | succ n ih => exact Nat.add_le_add ih (Nat.pow_le_pow_left hm _)
  have up : ∀ k, tot 5 n ≤ tot 5 (n + k) := by
    intro k
    induction k with
    | zero => exact Nat.le_refl _
    | succ k ih => exact Nat.le_trans ih (Nat.le_add_right _ _)
  have := up (8 - n)
  rw [show n + (8 - n) = 8 by omega] at this
  exact Nat.le_trans (mono n) (Nat.le_trans this (by decide))
abbrev strsV (zs : List Str) : List L2.V := zs.map L2.V.str
end MN
/-! the drawn signs; slices: plain -/
namespace MN
open PySem PySem.Spec PyProof.Rows L2
def one (c : Nat) : Str := ⟨#[c]⟩
theorem signsOf_one (z : Str) : signsOf z = (z.cps.toList.map one).map V.str := by
  unfold signsOf
  rw [List.map_map]; rfl
def strOf : V → Str
  | .str z => z
  | _ => e0
theorem perm_strsP {ys : List V} {zs : List Str} (h : ys.Perm (strsV zs)) : ∃ ws : List Str, ys = strsV ws ∧ ws.Perm zs := by
  refine ⟨ys.map strOf, ?_, ?_⟩
  · show ys = (ys.map strOf).map V.str
    rw [List.map_map]
    have : ys.map (V.str ∘ strOf) = ys.map id := by
      apply List.map_congr_left
      intro y hy
      obtain ⟨z, _, rfl⟩ := List.mem_map.mp (h.mem_iff.mp hy)
      rfl
    rw [this, List.map_id]
  · have := h.map strOf
    rw [List.map_map] at this
    have e : zs.map (strOf ∘ V.str) = zs.map id := List.map_congr_left fun _ _ => rfl
    rw [e, List.map_id] at this
    exact this
theorem ltCps_one (c d : Nat) : ltCps (one c).cps.toList (one d).cps.toList = decide (c < d) := by
  show (decide (c < d) || (c == d && false)) = _
  simp
theorem rising1 : ∀ (cs : List Nat) (p : Nat), risingS (one p) (cs.map one) = true → (∀ c ∈ cs, p ≤ c) ∧ cs.Pairwise (· ≤ ·)
  | [], _, _ => ⟨fun _ h => (by cases h), List.Pairwise.nil⟩
  | c :: cs, p, h => by
    have h' : (!ltCps (one c).cps.toList (one p).cps.toList && risingS (one c) (cs.map one)) = true := h
    rw [Bool.and_eq_true, ltCps_one] at h'
    obtain ⟨h1, h2⟩ := h'
    have hpc : p ≤ c := by simpa using h1
    obtain ⟨h3, h4⟩ := rising1 cs c h2
    refine ⟨fun d hd => ?_, .cons h3 h4⟩
    rcases List.mem_cons.mp hd with rfl | hd
    · exact hpc
    · exact Nat.le_trans hpc (h3 d hd)
theorem sorted1 : ∀ (cs : List Nat), sortedS (cs.map one) = true → cs.Pairwise (· ≤ ·)
  | [], _ => .nil
  | c :: cs, h => by
    obtain ⟨h1, h2⟩ := rising1 cs c h
    exact .cons h1 h2
/-- some of the five signs, sorted -/
theorem sgn_drawn {ws zs : List Str} {k : Nat} (hw : ws.Perm (("abcde" : Str).cps.toList.map one)) (hk : 0 < k) (hz : zs.Perm (ws.take k)) (hs : sortedS zs = true) : SgnOk zs := by
  have hnd : (("abcde" : Str).cps.toList.map one).Nodup := by decide +kernel
  have hws : ws.Nodup := hw.nodup_iff.mpr hnd
  have hzs : zs.Nodup := hz.nodup_iff.mpr (hws.sublist (List.take_sublist _ _))
  have hmem : ∀ z ∈ zs, ∃ c ∈ ("abcde" : Str).cps.toList, z = one c := fun z hz' => by
    have h1 := List.mem_of_mem_take (hz.mem_iff.mp hz')
    obtain ⟨c, hc, rfl⟩ := List.mem_map.mp (hw.mem_iff.mp h1)
    exact ⟨c, hc, rfl⟩
  have hl5 : ws.length = 5 := hw.length_eq
  have hzl : zs.length = min k 5 := by rw [hz.length_eq, List.length_take, hl5]
  obtain ⟨cs, rfl⟩ : ∃ cs : List Nat, zs = cs.map one := by
    refine ⟨zs.map fun z => z.cps.toList.headD 0, ?_⟩
    rw [List.map_map]
    have : zs.map (one ∘ fun z => z.cps.toList.headD 0) = zs.map id := by
      apply List.map_congr_left
      intro z hz'
      obtain ⟨c, _, rfl⟩ := hmem z hz'
      rfl
    rw [this, List.map_id]
  refine ⟨?_, hmem, by omega, by omega⟩
  have h1 := sorted1 cs hs
  have h2 : cs.Pairwise (· ≠ ·) := by
    have h3 : (cs.map one).Pairwise (· ≠ ·) := hzs
    rw [List.pairwise_map] at h3
    exact h3.imp fun {a b} h e => h (by rw [e])
  rw [List.pairwise_map]
  refine List.Pairwise.imp₂ (fun a b h h' => ?_) h1 h2
  show [a] < [b]
  exact List.cons_lt_cons_iff.mpr (.inl (Nat.lt_of_le_of_ne h h'))
theorem sgn_casesP {c : Nat} (h : sgn c = true) : c = 97 ∨ c = 98 ∨ c = 99 ∨ c = 100 ∨ c = 101 := by
  have h1 : c ∈ ("abcde" : Str).cps.toList := of_decide_eq_true h
  have h2 : ("abcde" : Str).cps.toList = [97, 98, 99, 100, 101] := by decide +kernel
  rw [h2] at h1
  simpa using h1
theorem word_okP {z : Str} (h : isWordS z = true) : PyData.strOk z = true := by
  unfold PyData.strOk
  rw [Array.all_eq_true_iff_forall_mem]
  intro c hc
  have := List.all_eq_true.mp h c (by simpa using hc)
  rcases sgn_casesP this with q | q | q | q | q <;> subst q <;> decide
theorem words_shapeP {zs : List Str} (h : ∀ z ∈ zs, isWordS z = true) : ∀ d ∈ zs.map PyData.str, d.canLay0 = true ∧ d.depth ≤ 60 := fun d hd => by
  obtain ⟨z, hz, rfl⟩ := List.mem_map.mp hd
  exact ⟨by rw [PyData.canLay0]; exact word_okP (h z hz), by rw [PyData.depth]; omega⟩
theorem cut_to (zs : List Str) {k : Int} (hk : 0 ≤ k) : cutV (strsV zs) none (some k) = strsV (zs.take k.toNat) := by
  have e : HT.sIx (strsV zs).length (strsV zs).length (some k) = min k.toNat zs.length := by
    show (if k < 0 then (k + ((strsV zs).length : Int)).toNat else min k.toNat (strsV zs).length) = _
    rw [if_neg (by omega), List.length_map]
  unfold cutV
  rw [e]
  show ((strsV zs).drop 0).take (min k.toNat zs.length - 0) = _
  rw [List.drop_zero, Nat.sub_zero, ← List.map_take]
  congr 1
  by_cases h : k.toNat ≤ zs.length
  · rw [Nat.min_eq_left h]
  · rw [Nat.min_eq_right (by omega), List.take_length, List.take_of_length_le (by omega)]
theorem cut_parts (zs : List Str) : ∃ m, cutV (strsV zs) (some (-30)) none = strsV (zs.drop m) ∧ cutV (strsV zs) none (some (-30)) = strsV (zs.take m) := by
  have e : ∀ d, HT.sIx (strsV zs).length d (some (-30)) = zs.length - 30 := fun d => by
    show (if (-30 : Int) < 0 then ((-30) + ((strsV zs).length : Int)).toNat else min (-30 : Int).toNat (strsV zs).length) = _
    rw [if_pos (by decide), List.length_map]
    omega
  refine ⟨zs.length - 30, ?_, ?_⟩
  · unfold cutV
    rw [e]
    show ((strsV zs).drop (zs.length - 30)).take ((strsV zs).length - (zs.length - 30)) = _
    rw [← List.map_drop, List.take_of_length_le]
    rw [List.length_map, List.length_drop, List.length_map]
    omega
  · unfold cutV
    rw [e]
    show ((strsV zs).drop 0).take (zs.length - 30 - 0) = _
    rw [List.drop_zero, Nat.sub_zero, ← List.map_take]
theorem shW {zs : List Str} (h : ∀ z ∈ zs, isWordS z = true) : SeqAt.shaped (.list (zs.map PyData.str)) = true := shapedL (words_shapeP h)
theorem shWT {zs : List Str} (h : ∀ z ∈ zs, isWordS z = true) : SeqAt.shaped (.tuple (zs.map PyData.str)) = true := shapedT (words_shapeP h)
theorem greatest_at {m : Nat} (h1 : 0 < m) (h5 : m ≤ 5) : ∃ g : Nat, atI [V.int 9, .int 9, .int 6, .int 5, .int 5] ((m : Int) - 1) = some (.int (g : Nat)) ∧ 0 < g ∧ g ≤ 9 ∧ ∀ n, n < g → tot m n ≤ 1000 := by
  have hm : m = 1 ∨ m = 2 ∨ m = 3 ∨ m = 4 ∨ m = 5 := by omega
  rcases hm with rfl | rfl | rfl | rfl | rfl
  · exact ⟨9, rfl, by decide, by decide, by decide⟩
  · exact ⟨9, rfl, by decide, by decide, by decide⟩
  · exact ⟨6, rfl, by decide, by decide, by decide⟩
  · exact ⟨5, rfl, by decide, by decide, by decide⟩
  · exact ⟨5, rfl, by decide, by decide, by decide⟩
end MN
/-! list(text) -/
namespace MN
open PySem PySem.Spec PyProof.Rows L2
section
variable {X : Cx}
/-- list(text) -/
theorem call_listS (hc : X.calm = true) : CallR X (.type "list") (fun xs H Q => ∃ z : Str, xs = [.str z] ∧ z.length ≤ 1000000 ∧ ∀ l, H l = none → Q (.ref l) (upd H l (.lst (signsOf z)))) := by
  intro pins s σ H xs us Q I r h
  obtain ⟨z, rfl, hz, q⟩ := h
  obtain ⟨u, rfl, t, rfl⟩ := vals1 r
  have hz1 : z.cps.size ≤ sizeLine := Nat.le_trans hz (by decide)
  refine PySem.call_list_str (hn := hz1) (I.ok.hd hc) z t fun h' tk acc' c' hk hS hacc => ?_
  have rv : Vals (signsOf z) acc'.toList := by
    have e := vals_of_get acc'.toList (fun j => V.str ⟨#[(z.cps[j]?).getD 0]⟩) fun j u hj => by
      obtain ⟨c, uu, h1, h2⟩ := hacc.2 j u (by simpa using hj)
      rw [h1, h2]
      exact ⟨_, rfl⟩
    have e2 : (List.range acc'.toList.length).map (fun j => V.str ⟨#[(z.cps[j]?).getD 0]⟩) = signsOf z := by
      apply List.ext_getElem?
      intro i
      unfold signsOf
      rw [List.getElem?_map, List.getElem?_map]
      have hl : acc'.toList.length = z.cps.size := by simpa using hacc.1
      by_cases hi : i < z.cps.size
      · rw [List.getElem?_range (by omega)]
        simp [hi]
      · rw [List.getElem?_eq_none (by simpa [hl] using Nat.le_of_not_lt hi), List.getElem?_eq_none (by simpa using Nat.le_of_not_lt hi)]
        rfl
    rw [e2] at e
    exact e
  refine ⟨.ref s.heap.objs.size, _, I.laid (t' := tk) hk (Nat.le_refl _) (show ObjOk X.prog X.w _ h' _ (.lst (signsOf z)) from ⟨?_, acc'.toList, c', rv, hS⟩), rfl, q _ (I.hok.fresh (Nat.le_refl _))⟩
  have : (signsOf z).length = z.cps.size := by simp [signsOf]
  omega
def ItemsL (K : PySem.W.Frag) (H : Hp) (x : V) (xs : List V) : Prop := (∃ l, x = .ref l ∧ SqL K H l xs) ∨ ∃ z : Str, x = .str z ∧ z.length ≤ 1000000 ∧ xs = signsOf z
theorem call_listI (hc : X.calm = true) : CallR X (.type "list") (fun vs H Q => ∃ x xs, vs = [x] ∧ ItemsL X.K H x xs ∧ ∀ l, H l = none → Q (.ref l) (upd H l (.lst xs))) := by
  intro pins s σ H vs us Q I r h
  obtain ⟨x, xs, rfl, hx, q⟩ := h
  rcases hx with ⟨l, rfl, hl⟩ | ⟨z, rfl, hz, rfl⟩
  · exact call_list_of pins s σ H _ us Q I r ⟨l, xs, rfl, .inl hl, q⟩
  · exact call_listS hc pins s σ H _ us Q I r ⟨z, rfl, hz, q⟩
end
section
/-- what is shuffled: a list, or a text's signs -/
def Items (K : PySem.W.Frag) (H : Hp) (p : Addr) (x : V) (xs : List V) : Prop := (∃ l, x = .ref l ∧ l ≠ p ∧ SqL K H l xs) ∨ (∃ z : Str, x = .str z ∧ xs = signsOf z)
theorem signs_len (z : Str) : (signsOf z).length = z.length := by simp [signsOf, Str.length]
end
end MN
/-! _law_shuffled of a list or a text -/
namespace MN
open PySem PySem.Spec PyProof.Rows L2
section
variable {P : Program} {w : World} {K : PySem.W.Frag} {mg : Str → Option Value} {base : Heap}
def spShufI (K : PySem.W.Frag) : Sp := fun vs H Q _ => ∃ p x xs, vs = [.ref p, x] ∧ Pot H p ∧ Items K H p x xs ∧ xs.length < 100000 ∧ ∀ ys q H', ys.Perm xs → H q = none → Ex p H H' → H' q = some (.lst ys) → Q (.ref q) H'
abbrev N_law_shuffled : List Str := ["_law_pot", "_law_items", "_law_left", "_law_turn"]
theorem sc_law_shuffled : FnScope N_law_shuffled ["_law_pot", "_law_items"] (defScope (top 31)) := ⟨rfl, rfl, rfl, by decide +kernel, rfl, by decide +kernel, by decide +kernel⟩
theorem c_law_shuffled (A : At K mg "_law_shuffled" (top 31)) (B : Blt mg) (c_law_dip : Cal P w K mg base 1 "_law_dip" spDip) : Cal P w K mg base 2 "_law_shuffled" (spShufI K) := by
  refine cal_of A sc_law_shuffled (fun _ _ _ _ _ _ us hl => match us, hl with | [_, _], _ => rfl) (fun vs H Q E h => ?_) (fun _ cdv A outer s H vs Q E hr h => ?_)
  · obtain ⟨_, _, _, rfl, _⟩ := h; rfl
  · obtain ⟨p, x, xs, rfl, hp, hl, hlen, hQ⟩ := h
    refine ⟨_, (pss_cons (ps_set (i := 2) sc_law_shuffled.nd rfl (Or.inr rfl) (pe_callTy (call_listI rfl) (by rfl) B.list (by decide +kernel) (pa_cons (pv 1) pa_nil)))
      (pss_one (ps_ret (pe_lc (own := [("_law_turn", 3)]) (g := gName 3) (tt := tYes) (by rfl) sc_law_shuffled.nd (pi_range1 (by rfl) B.range (pa_cons (pe_callB call_len (by rfl) B.len (by decide +kernel) (pa_cons (pv 1) pa_nil)) pa_nil))
        (blkOk_by (own := [("_law_turn", 3)]) (N := N_law_shuffled) (sc := defScope (top 31)) (by decide +kernel)) (fun _ _ _ _ _ => (pg_name (i := 3) sc_law_shuffled.nd rfl (Or.inl rfl))) (fun _ _ _ _ _ => pts_nil)
        (fun _ _ _ _ _ => (pe_popAt K rfl (pv 2) (pe_c c_law_dip hr (by decide) (by rfl) (pa_cons (pv 0) (pa_cons (pe_callB (lenK (K := K) rfl) (by rfl) B.len (by decide +kernel) (pa_cons (pv 2) pa_nil)) pa_nil))))))))), ?_⟩
    have lenx : ∀ m, H m = none → LenV K x (upd H m (.lst xs)) xs.length := fun m hm => by
      rcases hl with ⟨l, rfl, hne, hl⟩ | ⟨z, rfl, rfl⟩
      · exact .inl ⟨xs, seqL_upd hl hm, rfl⟩
      · refine ⟨?_, signs_len z⟩
        rw [signs_len] at hlen
        exact Nat.le_trans (Nat.le_of_lt hlen) (by decide)
    have hl' : ItemsL K H x xs := by
      rcases hl with ⟨l, rfl, hne, hl⟩ | ⟨z, rfl, rfl⟩
      · exact .inl ⟨l, rfl, hl⟩
      · refine .inr ⟨z, rfl, ?_, rfl⟩
        rw [signs_len] at hlen
        omega
    refine ⟨_, rfl, x, xs, rfl, hl', fun m hm => ?_⟩
    refine ⟨_, rfl, _, xs.length, rfl, lenx m hm, _, rfl, by omega, by omega, fun D hD => ?_⟩
    have hmp : m ≠ p := by
      obtain ⟨a, b, c, e⟩ := hp
      exact (ne_of_none e hm).symm
    have hDm : D ≠ m := fun z => by rw [z, upd_same] at hD; cases hD
    have hD0 : H D = none := by rw [upd_ne hDm] at hD; exact hD
    have hDp : D ≠ p := by
      obtain ⟨a, b, c, e⟩ := hp
      exact (ne_of_none e hD0).symm
    refine lc_it (walk_range (lo := 0)) (fun i H' => Ex p H H' ∧ ∃ made left : List V, (made ++ left).Perm xs ∧ left.length + i = xs.length ∧ H' D = some (.lst made) ∧ H' m = some (.lst left)) ?_ (fun _ _ _ _ => trivial) (fun i x H1 H2 hi e y => ?_) (fun H1 e => ?_)
    · refine ⟨((Ex.refl hp).put hm hmp).put hD0 hDp, [], xs, List.Perm.refl _, by simp, upd_same, ?_⟩
      rw [upd_ne hDm.symm, upd_same]
    · obtain ⟨rfl, rfl⟩ := y
      obtain ⟨ex, made, left, hperm, hll, hD1, hm1⟩ := e
      have hi' : i < xs.length := by simpa using hi
      obtain ⟨a, b, c, hp1⟩ := ex.pot
      have hlen2 : made.length ≤ xs.length := by
        have := hperm.length_eq
        rw [List.length_append] at this
        omega
      refine ⟨rfl, yes_q (iteT ?_)⟩
      refine ⟨_, rfl, .inl ⟨rfl, _, SqL.of hm1⟩, _, rfl, _, rfl, m, left, rfl, .inl (SqL.of hm1), p, _, a, b, c, rfl, hp1, by omega, by omega, fun r a' b' c' r0 r1 => ?_⟩
      obtain ⟨y, hy, hy2, _⟩ := atI_some (xs := left) r0 r1
      have ex2 : Ex p H (upd _ p (potO a' b' c')) := ex.trans Ex.turn
      refine ⟨m, left, r, r.toNat, y, rfl, rfl, by rw [upd_ne hmp]; exact hm1, by omega, by omega, seqIx r0 r1, hy2, made, ?_, ?_, ?_⟩
      · rw [upd_ne hDm, upd_ne hDp]; exact hD1
      · have : 100000 < sizeLine := by decide
        omega
      · refine ⟨(ex2.put hm hmp).put hD0 hDp, made ++ [y], left.eraseIdx r.toNat, ?_, ?_, upd_same, ?_⟩
        · rw [List.append_assoc]
          exact (List.Perm.append_left made (perm_erase hy2)).trans hperm
        · rw [List.length_eraseIdx, if_pos (by omega)]
          omega
        · rw [upd_ne hDm.symm, upd_same]
    · obtain ⟨ex, made, left, hperm, hll, hD1, hm1⟩ := e
      have : left = [] := List.eq_nil_of_length_eq_zero (by omega)
      subst this
      rw [List.append_nil] at hperm
      exact hQ made D H1 hperm hD0 ex hD1
end
end MN
/-! dicts whose keys are tuples: list(d.items()), dict(pairs), the walk over d.items() -/
namespace MN
open PySem PySem.Spec PyProof.Rows L2
/-- things laid over a tracked heap -/
def overH (H : Hp) (l : List (Addr × HO)) : Hp := fun b => match l.lookup b with | some o => some o | none => H b
theorem over_in {H : Hp} {l : List (Addr × HO)} {b : Addr} {o : HO} (h : l.lookup b = some o) : overH H l b = some o := by unfold overH; rw [h]
theorem over_out {H : Hp} {l : List (Addr × HO)} {b : Addr} (h : l.lookup b = none) : overH H l b = H b := by unfold overH; rw [h]
theorem lookup_zip {as : List Addr} {os : List HO} (nd : as.Nodup) {i : Nat} {a : Addr} {o : HO} (h1 : as[i]? = some a) (h2 : os[i]? = some o) : (as.zip os).lookup a = some o := by
  induction as generalizing os i with
  | nil => cases h1
  | cons x as ih =>
    obtain ⟨hx, nd'⟩ := List.nodup_cons.mp nd
    cases os with
    | nil => cases h2
    | cons y os =>
      cases i with
      | zero =>
        have e1 : x = a := Option.some.inj h1
        have e2 : y = o := Option.some.inj h2
        subst e1 e2
        rw [List.zip_cons_cons, List.lookup_cons_self]
      | succ i =>
        have h1' : as[i]? = some a := h1
        have hne : (a == x) = false := beq_eq_false_iff_ne.mpr fun e => hx (by rw [← e]; exact List.mem_of_getElem? h1')
        rw [List.zip_cons_cons, List.lookup_cons, hne]
        exact ih nd' h1' h2
theorem lookup_mem {α β : Type} [BEq α] [LawfulBEq α] : ∀ {l : List (α × β)} {a : α} {b : β}, l.lookup a = some b → (a, b) ∈ l
  | (x, y) :: l, a, b, h => by
    rw [List.lookup_cons] at h
    by_cases e : a = x
    · subst e
      rw [beq_self_eq_true] at h
      cases h
      exact List.mem_cons_self
    · rw [beq_eq_false_iff_ne.mpr e] at h
      exact List.mem_cons_of_mem _ (lookup_mem h)
theorem zip_of {as : List Addr} {os : List HO} {a : Addr} {o : HO} (h : (as.zip os).lookup a = some o) : ∃ i : Nat, as[i]? = some a ∧ os[i]? = some o := by
  have hm := lookup_mem h
  obtain ⟨i, hi⟩ := List.mem_iff_getElem?.mp hm
  obtain ⟨h1, h2⟩ := List.getElem?_zip_eq_some.mp hi
  exact ⟨i, h1, h2⟩
section
variable {X : Cx} {pins : List (Addr × Obj)} {σ : L2.St} {H : Hp} {s : Shared}
theorem Inv_over {l : List (Addr × HO)} {h' : Heap} {tk : Nat} (I : L2.Inv X pins σ H s) (hk : ∀ b o, s.heap.get? b = some o → h'.get? b = some o) (fresh : ∀ b o, l.lookup b = some o → s.heap.objs.size ≤ b)
    (ok : ∀ b o, l.lookup b = some o → ObjOk X.prog X.w (overH H l) h' b o) : L2.Inv X pins σ (overH H l) { s with heap := h', toks := tk } := by
  have up : ∀ b u, H b = some u → overH H l b = some u := fun b u e => by
    cases q : l.lookup b with
    | none => rw [over_out q]; exact e
    | some o => rw [I.hok.fresh (fresh b o q)] at e; cases e
  refine I.call' (ch := []) rfl ⟨fun b o q _ _ _ => hk b o q, fun b o q _ _ _ => ⟨o.slots, hk b o q⟩, fun b o q n _ => ?_, fun b o q _ => ⟨o, hk b o q⟩, fun b xs q => up b _ q, fun b o u q => up b _ q, fun b ps q => ⟨#[], by rw [up b _ q]; simp⟩⟩ (fun b u q => ?_) I.bare fun b z => by simp at z
  · cases z : l.lookup b with
    | none => rw [over_out z]; exact n
    | some u => exact absurd (Nat.lt_of_lt_of_le (Heap.lt_size q) (fresh b u z)) (Nat.lt_irrefl _)
  · cases z : l.lookup b with
    | none =>
      rw [over_out z] at q
      exact (I.hok b u q).stay (fun d v _ y => hk d v y) (fun d y => up d _ y) fun d xs y => up d _ y
    | some o =>
      rw [over_in z] at q
      cases q
      exact ok b _ z
end
/-- each t is the tuple of a key and its value -/
def PairsT (H : Hp) : List Addr → List (List Key × V) → Prop := Paired fun t kv => ∃ q, H t = some (.tup [.ref q, kv.2]) ∧ H q = some (.tup (kv.1.map kV))
/-! ### list(d.items()) -/
section
variable {prog : Program} {w : World} {A : Around} {E : Value → Shared → Prop} {s : Shared} {r d : Addr} {es : Array DictEntry} {ep : Nat}
theorem list_items_raw {Q : Value → Shared → Prop} (hh : A.handled = none) (hv : s.heap.IsItemsView r d) (hm : DT.Raw s.heap d es ep) (hn : es.size ≤ sizeLine)
    (hQ : ∀ h' tk acc c as, (∀ b o, s.heap.get? b = some o → h'.get? b = some o) → h'.get? s.heap.objs.size = some { cls := .type "list", dict := none, data := .seq acc c, slots := #[] } → as.length = es.size → DT.Made es s.heap.objs.size h' as →
      acc.toList = as.map Value.ref → Q (.ref s.heap.objs.size) { s with heap := h', toks := tk }) :
    wpAny (model prog w) A (call (.type "list") [.ref r]) Q E s := by
  refine callType_codes (Q₁ := fun obj s₁ => obj = .ref s.heap.objs.size ∧ s₁ = { s with heap := s.heap.push { cls := .type "list", data := .seq #[] } }) PySem.F.called_list (PySem.F.typeCall_list_1 _) PySem.F.entry_list_init
    (code_list_new _ ⟨rfl, rfl⟩) fun obj s₁ h₁ => ?_
  obtain ⟨rfl, rfl⟩ := h₁
  have hS : (s.heap.push { cls := .type "list", data := .seq #[] }).get? s.heap.objs.size = some { cls := .type "list", data := .seq #[] } := Heap.get?_push_size _ rfl
  have hr : r < s.heap.objs.size := let ⟨_, ho, _⟩ := hv; Heap.lt_size ho
  have hd : d < s.heap.objs.size := hm.lt
  refine ⟨⟨_, hS, rfl⟩, PySem.F.args_list_init_2 _ _, ?_⟩
  show wpAny _ A.in1.in1 (do let old ← Builtin.List.listItems (.ref s.heap.objs.size); Builtin.List.listUpdate (.ref s.heap.objs.size) (fun _ => #[]); letGo old.toList.reverse; Builtin.List.listExtendWith (.ref s.heap.objs.size) (.ref r) .none) _ _ _
  refine wpAny_bind ?_
  unfold Builtin.List.listItems
  refine wpAny_bind (wpAny_seqItems hS rfl (wpAny_pure ?_))
  show wpAny _ _ (updateSeq s.heap.objs.size (fun _ => #[]) >>= fun _ => letGo (#[] : Array Value).toList.reverse >>= fun _ => Builtin.List.listExtendWith (.ref s.heap.objs.size) (.ref r) .none) _ _ _
  refine wpAny_bind (wpAny_updateSeq hS rfl ?_)
  have hS₂ := Heap.get?_update_self (Obj.mapSeq (fun _ => (#[] : Array Value))) hS rfl
  have oth : ∀ b o, b ≠ s.heap.objs.size → (s.heap.push { cls := .type "list", data := .seq #[] }).get? b = some o → ((s.heap.push { cls := .type "list", data := .seq #[] }).update s.heap.objs.size (Obj.mapSeq (fun _ => (#[] : Array Value)))).get? b = some o :=
    fun b o hb e => (Heap.get?_update_other _ _ (Ne.symm hb)).trans e
  have up : ∀ b o, s.heap.get? b = some o → ((s.heap.push { cls := .type "list", data := .seq #[] }).update s.heap.objs.size (Obj.mapSeq (fun _ => (#[] : Array Value)))).get? b = some o := fun b o e => oth b o (Nat.ne_of_lt (Heap.lt_size e)) (Heap.get?_push_of_some _ e)
  refine wpAny_bind (wpAny_letGo ?_)
  refine DT.extI (A := A.in1) (es := es) (ep := ep) hh (let ⟨o, ho, x⟩ := hv; ⟨o, up r o ho, x⟩) (hm.at' fun o e => up d o e) _ (Nat.ne_of_gt hr) (Nat.ne_of_lt hd) .none _ hS₂ (fun h' tk acc c as hk hS' hl hG hacc => ?_) hn
  exact ⟨rfl, hQ h' tk acc c as (fun b o e => hk b o (Nat.ne_of_lt (Heap.lt_size e)) (up b o e)) hS' hl (hG.low (Nat.le_of_lt (Heap.lt_size hS₂))) hacc⟩
end
def rItemsLT : V → Hp → VK → Prop := fun x H Q => ∃ (d : Addr) (kvs : List (List Key × V)), x = .ref d ∧ H d = some (.dT kvs) ∧
  ∀ (H' : Hp) (p : Addr) (ts : List Addr), Same H H' → H p = none → H' p = some (.lst (ts.map V.ref)) → PairsT H' ts kvs → Q (.ref p) H'
def tListItemsT (te : TE) : TE := fun σ H Q => te σ H fun x H1 => rItemsLT x H1 Q
theorem paired_of {α β : Type} {F : α → β → Prop} : ∀ {xs : List α} {ys : List β}, xs.length = ys.length → (∀ (i : Nat) (x : α) (y : β), xs[i]? = some x → ys[i]? = some y → F x y) → Paired F xs ys
  | [], [], _, _ => .nil
  | [], _ :: _, h, _ => by cases h
  | _ :: _, [], h, _ => by cases h
  | x :: xs, y :: ys, h, hF => .cons (hF 0 x y rfl rfl) (paired_of (Nat.succ.inj h) fun i a b h1 h2 => hF (i + 1) a b h1 h2)
section
variable {X : Cx} {e : Expr} {te : TE} {p apos cpos pos : Pos}
theorem pe_listItemsT (hc : X.calm = true) (he : PE X e te) (hg : Gl X "list") (hm : X.mg "list" = none) (hv : bootBuiltins "list" = some (.type "list")) (hbase : attributeBase e "items" X.env (eval e X.env) = eval e X.env := by rfl) (hline : (apos.endLine == cpos.line) = true := by rfl)
    (hs : starEach [.Call (.Attribute e "items" apos) [] [] cpos] X.env = (false, eval (.Call (.Attribute e "items" apos) [] [] cpos) X.env) :: starEach [] X.env := by rfl) :
    PE X (.Call (.Name "list" p) [.Call (.Attribute e "items" apos) [] [] cpos] [] pos) (tListItemsT te) := by
  refine ⟨fun pins s σ H Q I hq => ?_⟩
  refine wpAny_Call_Name_kw (ld_blt I hg hm hv ?_)
  refine PyProof.Rows.callWith_type1 ?_ hs rfl
  rw [hs]
  show wpAny _ _ (spliced ((false, eval (.Call (.Attribute e "items" apos) [] [] cpos) X.env) :: backTo pos (starEach [] X.env))) _ _ s
  refine Calls.spliced_cons ?_
  refine wpAny_Call_method (T := "dict") (id := "dict.items") hbase rfl hline F.plainAttrs_dict F.slot_dict_items F.type_dict_items (thn (he.run pins s σ H _ I hq) fun u s1 ⟨x, H1, I1, rx, d, kvs, ex, hd, q⟩ => ?_)
  subst ex
  obtain rfl : u = Value.ref d := rx
  obtain ⟨z, hs0, xs, rel, o, es, ep, ho, hx, hdat, hes, his, hnd⟩ := dt_of I1.hok hd
  have raw : DT.Raw s1.heap d es ep := ⟨o, ho, hx, hdat⟩
  have lx : kvs.length = xs.length := Paired.length rel
  have le : es.size = xs.length := size_of_entries hes
  have I2 : L2.Inv X pins σ H1 { s1 with heap := s1.heap.push { cls := .type "dict_items", data := .fields #[.ref d] } } := I1.kept (t' := s1.toks) fun b ob q => Heap.get?_push_of_some _ q
  refine ⟨raw.typeIs, dictOfH_noDict (knd := tupleKind (mixKind X.prog X.w)) ⟨o, es, ep, ho, hx, hdat, hes, his, hnd⟩, ?_⟩
  show wpAny _ _ (callWith cpos (.builtin "dict.items") [.ref d] [] []) _ X.xe s1
  refine Calls.callWith_builtin rfl (PySem.evalArgs_none (DT.callItems hs0 raw ?_))
  refine Calls.spliced_nil ?_
  refine list_items_raw (I1.ok.hd hc) (r := s1.heap.objs.size) ⟨_, Heap.get?_push_size _ rfl, rfl, rfl⟩ (raw.push _) (by omega) fun h' tk acc c as hk hS hl hG hacc => ?_
  have la : as.length = kvs.length := by omega
  have nd : as.Nodup := List.Pairwise.imp (fun {a b} (h : a < b) => Nat.ne_of_lt h) hG.rise
  let S := (s1.heap.push { cls := .type "dict_items", data := .fields #[.ref d] }).objs.size
  let os : List HO := (kvs.zip xs).map fun z => HO.tup [.ref z.2.2.1, z.1.2]
  let l : List (Addr × HO) := (S, .lst (as.map V.ref)) :: as.zip os
  have hSn : S ∉ as := fun z => Nat.lt_irrefl _ (hG.above _ z)
  have osAt : ∀ (i : Nat) (kv : List Key × V) (x : List Key × Addr × Value), kvs[i]? = some kv → xs[i]? = some x → os[i]? = some (HO.tup [.ref x.2.1, kv.2]) := fun i kv x h1 h2 => by
    show ((kvs.zip xs).map _)[i]? = _
    rw [List.getElem?_map, show (kvs.zip xs)[i]? = some (kv, x) from List.getElem?_zip_eq_some.mpr ⟨h1, h2⟩]; rfl
  have lS : l.lookup S = some (.lst (as.map V.ref)) := List.lookup_cons_self
  have lT : ∀ (i : Nat) (a : Addr) (kv : List Key × V) (x : List Key × Addr × Value), as[i]? = some a → kvs[i]? = some kv → xs[i]? = some x → l.lookup a = some (.tup [.ref x.2.1, kv.2]) := fun i a kv x h0 h1 h2 => by
    have hne : (a == S) = false := beq_eq_false_iff_ne.mpr fun e => hSn (by rw [← e]; exact List.mem_of_getElem? h0)
    show List.lookup a ((S, _) :: as.zip os) = _
    rw [List.lookup_cons, hne]
    exact lookup_zip nd h0 (osAt i kv x h1 h2)
  have lOf : ∀ b o, l.lookup b = some o → (b = S ∧ o = .lst (as.map V.ref)) ∨ ∃ (i : Nat) (kv : List Key × V) (x : List Key × Addr × Value), as[i]? = some b ∧ kvs[i]? = some kv ∧ xs[i]? = some x ∧ o = .tup [.ref x.2.1, kv.2] := fun b o h => by
    by_cases hb : b = S
    · subst hb
      rw [lS] at h
      exact .inl ⟨rfl, (Option.some.inj h).symm⟩
    · have hne : (b == S) = false := beq_eq_false_iff_ne.mpr hb
      have h' : (as.zip os).lookup b = some o := by
        have h2 : List.lookup b ((S, HO.lst (as.map V.ref)) :: as.zip os) = some o := h
        rw [List.lookup_cons, hne] at h2
        exact h2
      obtain ⟨i, h1, h2⟩ := zip_of h'
      obtain ⟨z, h3, h4⟩ := Option.map_eq_some_iff.mp ((List.getElem?_map ..).symm.trans h2)
      obtain ⟨h5, h6⟩ := List.getElem?_zip_eq_some.mp h3
      exact .inr ⟨i, z.1, z.2, h1, h5, h6, h4.symm⟩
  have fresh : ∀ b o, l.lookup b = some o → S ≤ b := fun b o h => by
    rcases lOf b o h with ⟨rfl, _⟩ | ⟨i, kv, x, h1, _⟩
    · exact Nat.le_refl _
    · exact Nat.le_of_lt (hG.above b (List.mem_of_getElem? h1))
  have J : L2.Inv X pins σ (overH H1 l) { s1 with heap := h', toks := tk } := by
    refine Inv_over (s := { s1 with heap := s1.heap.push { cls := .type "dict_items", data := .fields #[.ref d] } }) I2 hk fresh fun b o h => ?_
    rcases lOf b o h with ⟨rfl, rfl⟩ | ⟨i, kv, x, h1, h2, h3, rfl⟩
    · refine ⟨by rw [List.length_map]; omega, acc.toList, c, by rw [hacc]; exact LiI.vals_refs as, ?_⟩
      rw [Array.toArray_toList]; exact hS
    · obtain ⟨en, e1, e2⟩ := hG.pairs i b h1
      have e3 := entry_at hes i
      rw [e1, h3] at e3
      have e4 : en = entryOfKey (tupleKind (mixKind X.prog X.w)) x := Option.some.inj e3
      obtain ⟨y, hy, r1, r2, r3⟩ := L2.DX.pget rel h3
      rw [h2] at hy
      cases hy
      rw [e4] at e2
      exact ⟨by show 2 ≤ sizeLine; decide, [Value.ref x.2.1, x.2.2], .cons rfl (.cons r3 .nil), ⟨_, e2, rfl, _, rfl⟩⟩
  have up : Same H1 (overH H1 l) := fun b u e => by
    cases q : l.lookup b with
    | none => rw [over_out q]; exact e
    | some o => rw [I2.hok.fresh (fresh b o q)] at e; cases e
  refine ⟨.ref S, overH H1 l, J, rfl, q _ S as up (I2.hok.fresh (Nat.le_refl _)) (over_in lS) (paired_of la fun i t kv h1 h2 => ?_)⟩
  obtain ⟨x, hx1, r1, r2, r3⟩ := LiI.paired_get rel h2
  exact ⟨x.2.1, over_in (lT i t kv x h1 h2 hx1), up _ _ r2⟩
end
/-! ### dict(pairs) -/
theorem stored_all {ps : List (List Key × Addr × Value)} : ∀ (acc : List (List Key × Addr × Value)), ((acc ++ ps).map (·.1)).Nodup → storedAllH acc ps = acc ++ ps := by
  induction ps with
  | nil => intro acc _; rw [List.append_nil]; rfl
  | cons p ps ih =>
    intro acc hn
    have hnew : atKey acc p.1 = none := by
      cases q : atKey acc p.1 with
      | none => rfl
      | some z =>
        exfalso
        unfold atKey at q
        obtain ⟨x, hx, _⟩ := Option.map_eq_some_iff.mp q
        have h1 := List.mem_of_find?_eq_some hx
        have h2 : x.1 = p.1 := by simpa using List.find?_some hx
        rw [List.map_append, List.map_cons] at hn
        have h3 := (List.nodup_append.mp hn).2.2 x.1 (List.mem_map.mpr ⟨x, h1, rfl⟩) p.1 List.mem_cons_self
        exact h3 h2
    show storedAllH (storedH acc p.1 p.2.1 p.2.2) ps = _
    rw [storedH_new hnew]
    have e : acc ++ p :: ps = (acc ++ [(p.1, p.2.1, p.2.2)]) ++ ps := by simp
    rw [ih _ (by rw [← e]; exact hn), e]
def rDictPT : List V → Hp → VK → Prop := fun vs H Q => ∃ (a : Addr) (ts : List Addr) (kvs : List (List Key × V)), vs = [.ref a] ∧ H a = some (.lst (ts.map V.ref)) ∧ PairsT H ts kvs ∧ (kvs.map (·.1)).Nodup ∧ ∀ p, H p = none → Q (.ref p) (upd H p (.dT kvs))
theorem call_dictPT {X : Cx} (hcalm : X.calm = true) (hu : X.A.units + 64 < cLine) : CallR X (.type "dict") rDictPT := by
  intro pins s σ H xs us Q I r q
  obtain ⟨a, ts, kvs, rfl, ha, hp, hnd, q⟩ := q
  obtain ⟨u, rfl, rx⟩ := vals1 r
  cases rx
  obtain ⟨hz, its, n, rv, ho⟩ := I.hok a _ ha
  have ei := refs_at rv
  subst ei
  rw [List.length_map] at hz
  have lk : ts.length = kvs.length := Paired.length hp
  -- what stands at each pair
  have at_ : ∀ (i : Nat) (t : Addr) (kv : List Key × V), ts[i]? = some t → kvs[i]? = some kv → ∃ (b : Addr) (v : Value), H b = some (.tup (kv.1.map kV)) ∧ RelV kv.2 v ∧ IsTup s.heap t #[.ref b, v] := fun i t kv h1 h2 => by
    obtain ⟨kv', e, qa, h3, h4⟩ := LiI.paired_get hp h1
    rw [h2] at e
    cases e
    obtain ⟨_, its2, r2, ht⟩ := I.hok t _ h3
    cases r2 with
    | cons ra rb =>
      cases rb with
      | cons rc rd =>
        cases rd
        cases ra
        exact ⟨qa, _, h4, rc, ht⟩
  have ch : ∀ i : Fin ts.length, ∃ x : Addr × Value, H x.1 = some (.tup ((kvs[i.1]'(by omega)).1.map kV)) ∧ RelV (kvs[i.1]'(by omega)).2 x.2 ∧ IsTup s.heap ts[i.1] #[.ref x.1, x.2] := fun i => by
    obtain ⟨b, v, h1, h2, h3⟩ := at_ i.1 ts[i.1] (kvs[i.1]'(by omega)) (List.getElem?_eq_getElem _) (List.getElem?_eq_getElem _)
    exact ⟨(b, v), h1, h2, h3⟩
  let f : Fin ts.length → Addr × Value := fun i => Classical.choose (ch i)
  have hf : ∀ i : Fin ts.length, H (f i).1 = some (.tup ((kvs[i.1]'(by omega)).1.map kV)) ∧ RelV (kvs[i.1]'(by omega)).2 (f i).2 ∧ IsTup s.heap ts[i.1] #[.ref (f i).1, (f i).2] := fun i => Classical.choose_spec (ch i)
  let ps : List (List Key × Addr × Value) := List.ofFn fun i : Fin ts.length => ((kvs[i.1]'(by omega)).1, (f i).1, (f i).2)
  have psl : ps.length = ts.length := List.length_ofFn
  have psAt : ∀ (i : Nat) (hi : i < ts.length), ps[i]? = some ((kvs[i]'(by omega)).1, (f ⟨i, hi⟩).1, (f ⟨i, hi⟩).2) := fun i hi => by
    rw [List.getElem?_eq_getElem (by omega), List.getElem_ofFn]
  have kt : KT H kvs ps := paired_of (by omega) fun i kv x h1 h2 => by
    have hi : i < ts.length := by have := (List.getElem?_eq_some_iff.mp h1).1; omega
    rw [psAt i hi] at h2
    cases h2
    obtain ⟨hi', e⟩ := List.getElem?_eq_some_iff.mp h1
    subst e
    exact ⟨rfl, (hf ⟨i, hi⟩).1, (hf ⟨i, hi⟩).2.1⟩
  have keysP : ps.map (·.1) = kvs.map (·.1) := by
    apply List.ext_getElem?
    intro i
    rw [List.getElem?_map, List.getElem?_map]
    by_cases hi : i < ts.length
    · rw [psAt i hi, List.getElem?_eq_getElem (by omega)]; rfl
    · rw [List.getElem?_eq_none (by omega), List.getElem?_eq_none (by omega)]; rfl
  let prs : List (Value × Value) := ps.map fun x => (Value.ref x.2.1, x.2.2)
  have prl : prs.length = ts.length := by rw [List.length_map]; exact psl
  have hst : KeysStay (tupleKind (mixKind X.prog X.w)) s.heap s.heap.objs.size [] ps := fun h' hk x hx => by
    obtain ⟨y, hy⟩ := List.mem_iff_getElem?.mp hx
    obtain ⟨kv, hkv, r1, r2, _⟩ := L2.DX.pget kt hy
    have ok' : HOk X.prog X.w H h' := by
      intro b o e
      exact (I.hok b o e).stay (fun c v _ z => hk c v (Nat.ne_of_lt (Heap.lt_size z)) (by simp) z) (fun _ z => z) fun _ _ z => z
    rw [← r1]
    exact key_of ok' r2
  refine call_dict_pairsH (knd := tupleKind (mixKind X.prog X.w)) (ps := ps) (PairArg.list a ((ts.map Value.ref).toArray) (fun j => (ts[j]?).getD 0) prs) (I.ok.hd hcalm) (show X.A.in1.in1.units < cLine by show X.A.units + 1 + 1 < cLine; omega) ⟨⟨_, n, ho, rfl, rfl, rfl⟩, by simp [prl], fun j k v hj => ?_⟩ ⟨by rw [prl, psl], fun i key v hrel => ?_⟩ hst (by omega) fun h' tk hd' hk => ?_
  · have hj' : j < ts.length := by have := (List.getElem?_eq_some_iff.mp hj).1; omega
    rw [List.getElem?_map, psAt j hj'] at hj
    cases hj
    have ht := (hf ⟨j, hj'⟩).2.2
    refine ⟨by simp [hj'], .inl ?_⟩
    show s.heap.IsTuple ((ts[j]?).getD 0) _
    rw [List.getElem?_eq_getElem hj']
    exact ht
  · have hj' : i < ts.length := by have := (List.getElem?_eq_some_iff.mp hrel).1; omega
    have hrel' : prs[i]? = some (key, v) := hrel
    rw [List.getElem?_map, psAt i hj'] at hrel'
    cases hrel'
    exact ⟨_, _, psAt i hj', rfl⟩
  · have e := stored_all (ps := ps) [] (by rw [List.nil_append, keysP]; exact hnd)
    rw [e, List.nil_append] at hd'
    have hm : (s.heap.objs.size == sysModules) = false := beq_eq_false_iff_ne.mpr (Nat.ne_of_gt I.big)
    have hk' : ∀ b o, s.heap.get? b = some o → h'.get? b = some o := fun b o e => hk b o (by simp) e
    obtain ⟨o, es, ep, h1, h2, h3, h4, h5, h6⟩ := hd'
    have hfr : H s.heap.objs.size = none := I.hok.fresh (Nat.le_refl _)
    refine ⟨.ref s.heap.objs.size, upd H s.heap.objs.size (.dT kvs), I.laid (t' := tk) hk' (Nat.le_refl _) (show ObjOk X.prog X.w _ _ _ (.dT kvs) from ⟨by omega, hm, ps, kt.keeps fun b ys e => ?_, o, es, ep, h1, h2, h3, h4, h6⟩), rfl, q _ hfr⟩
    rw [upd_ne (ne_of_none e hfr)]; exact e
end MN
/-! the walk over d.items() of a dict with tuple keys; sorted of data -/
namespace MN
open PySem PySem.Spec PyProof.Rows L2
/-- the pairs, each a new tuple of the key's own tuple and the value -/
def Itit (d : Addr) (o : Obj) (kvs : List (List Key × V)) : It :=
  ⟨fun i H => H d = some (.frz o (.dT kvs)) ∧ i < kvs.length, fun i H x H' => ∃ T k v q, kvs[i]? = some (k, v) ∧ x = .ref T ∧ H T = none ∧ H q = some (.tup (k.map kV)) ∧ H' = upd H T (.tup [.ref q, v]), fun i H => H d = some (.frz o (.dT kvs)) ∧ kvs.length ≤ i⟩
section
variable {X : Cx} {pins : List (Addr × Obj)} {σ : L2.St} {H : Hp} {s : Shared} {d : Addr} {o : Obj}
theorem frzTV {kvs : List (List Key × V)} (I : L2.Inv X pins σ H s) (h : H d = some (.frz o (.dT kvs))) :
    (d == sysModules) = false ∧ s.heap.get? d = some o ∧ o.ExactDict ∧ ∃ (es : Array DictEntry) (ep : Nat), o.data = .dict es ep ∧ es.size = kvs.length ∧
      ∀ (i : Nat) (k : List Key) (v : V), kvs[i]? = some (k, v) → ∃ (en : DictEntry) (q : Addr), es[i]? = some en ∧ en.key = .ref q ∧ H q = some (.tup (k.map kV)) ∧ RelV v en.val := by
  obtain ⟨hd, z, hs, xs, pr, o', es, ep, ho, hx, hdt, he, _⟩ := I.hok d _ h
  rw [hd] at ho
  cases ho
  refine ⟨hs, hd, hx, es, ep, hdt, ?_, fun i k v e => ?_⟩
  · have l1 : es.size = xs.length := size_of_entries he
    have l2 : kvs.length = xs.length := Paired.length pr
    omega
  · obtain ⟨b, hb, e1, e2, e3⟩ := LiI.paired_get pr e
    have q := entry_at he i
    rw [hb] at q
    exact ⟨_, b.2.1, q, rfl, e2, e3⟩
end
section
variable {P : Program} {w : World} {K : PySem.W.Frag} {d : Addr} {o : Obj} {es : Array DictEntry} {ep : Nat}
theorem turn_itemsT {kvs : List (List Key × V)} {elts : List Expr} {kk : Nat} {tpos : Pos} (it : Addr) (hod : o.data = .dict es ep) :
    Turn P w K (.Tuple elts kk tpos) (Itit d o kvs) [it] it (fun i h => ∃ ok ov, IsItemIter h it d i kvs.length ep ok ov) where
  mem := by simp
  obj := fun i h st b hb => by
    have e : b = it := by simpa using hb
    subst e
    obtain ⟨ok, ov, e⟩ := st
    exact ⟨_, e, fun v z => nomatch z⟩
  keep := fun i h h' st k => let ⟨ok, ov, e⟩ := st; ⟨ok, ov, k it (by simp) _ e⟩
  item := by
    intro X hP hw hK hc i pins s σ H E I hf st hg
    subst hP hw hK
    obtain ⟨hd, hi⟩ := hg
    obtain ⟨hs, hgd, hx, es', ep', hdt, hsz, ent⟩ := frzTV I hd
    obtain ⟨rfl, rfl⟩ := dict_ep hod hdt
    obtain ⟨⟨k, v⟩, hkv⟩ : ∃ p, kvs[i]? = some p := ⟨kvs[i], List.getElem?_eq_getElem hi⟩
    obtain ⟨en, q, hen, hkey, hq, rv⟩ := ent i k v hkv
    obtain ⟨hie, ee⟩ := Array.getElem?_eq_some_iff.mp hen
    obtain ⟨ok, ov, he⟩ := st
    rw [← hsz] at he
    have hlt : it < s.heap.objs.size := Heap.lt_size he
    refine DT.nextI he ⟨o, hgd, hx, hod⟩ hie fun h' ho hT hz hk => ?_
    refine ⟨_, rfl, wpAny_letOwnedTupleGo_items (s := { s with heap := h' }) ho fun h'' he' sb => ?_⟩
    have hT2 : h''.get? s.heap.objs.size = some { cls := .type "tuple", data := .seq #[.ref q, en.val] } := by
      have := (sb.2 _ (Nat.ne_of_gt hlt)).trans hT
      rw [ee, hkey] at this
      exact this
    have new : ObjOk X.prog X.w (upd H s.heap.objs.size (.tup [.ref q, v])) h'' s.heap.objs.size (.tup [.ref q, v]) :=
      ⟨by show 2 ≤ sizeLine; decide, [.ref q, en.val], .cons rfl (.cons rv .nil), ⟨_, hT2, rfl, _, rfl⟩⟩
    have I1 : L2.Inv X pins σ (upd H s.heap.objs.size (.tup [.ref q, v])) { s with heap := h'' } :=
      I.turnedNew (t' := s.toks) (ch := [it]) (fun b ob hb e => (sb.2 b (by simpa using hb)).trans (hk b ob (by simpa using hb) e)) hf (Nat.le_refl _) new
    refine ⟨.ref s.heap.objs.size, _, I1, rfl, ⟨_, k, v, q, hkv, rfl, I.hok.fresh (Nat.le_refl _), hq, rfl⟩, ⟨es'[i].key, es'[i].val, ?_⟩, fun b hb => ?_⟩
    · rw [← hsz]; exact he'
    · have e : b = it := by simpa using hb
      rw [e, upd_ne (Nat.ne_of_lt hlt)]
      exact (hf it (by simp)).1
  done := by
    intro X hP hw hK hc i pins s σ H E I hf st hg
    subst hP hw hK
    obtain ⟨hd, hi⟩ := hg
    obtain ⟨f0, f1, f2, f3, f4, f5⟩ := hf it (by simp)
    obtain ⟨hs, hgd, hx, es', ep', hdt, hsz, ent⟩ := frzTV I hd
    obtain ⟨rfl, rfl⟩ := dict_ep hod hdt
    obtain ⟨ok, ov, he⟩ := st
    rw [← hsz] at he
    exact DT.endI (I.ok.hd hc) he ⟨o, hgd, hx, hod⟩ (by omega) fun h' eb => ⟨rfl, I.turned (t' := s.toks) (fun b ob hb e => eb b ob hb e) f0 f1 f3 f4 f5⟩
  self := fun A i s Q E st h => let ⟨_, _, e⟩ := st; PySem.W.kcp_self e h
end
def iItemsT (td : TE) : TI := fun σ H R => td σ H fun x H1 => ∃ d o kvs, x = .ref d ∧ H1 d = some (.frz o (.dT kvs)) ∧ R (Itit d o kvs) H1
section
variable {X : Cx} {e : Expr} {td : TE} {apos cpos : Pos}
theorem pi_itemsT {elts : List Expr} {kk : Nat} {tpos : Pos} (he : PE X e td) (hbase : attributeBase e "items" X.env (eval e X.env) = eval e X.env := by rfl) (hline : (apos.endLine == cpos.line) = true := by rfl) :
    PI X (.Tuple elts kk tpos) (.Call (.Attribute e "items" apos) [] [] cpos) (iItemsT td) := by
  refine ⟨fun pins s σ H R I h => ?_⟩
  refine wpAny_Call_method (T := "dict") (id := "dict.items") hbase rfl hline F.plainAttrs_dict F.slot_dict_items F.type_dict_items (thn (he.run pins s σ H _ I h) fun u s1 ⟨x, H1, I1, rx, d, o, kvs, ex, hd, q⟩ => ?_)
  subst ex
  obtain rfl : u = Value.ref d := rx
  obtain ⟨hs, hgd, hx, es, ep, hdt, hsz, ent⟩ := frzTV I1 hd
  have raw : DT.Raw s1.heap d es ep := ⟨o, hgd, hx, hdt⟩
  refine ⟨raw.typeIs, fun b hb => ?_, ?_⟩
  · cases hb
    exact ⟨o, hgd, hx.2.1⟩
  have I2 : L2.Inv X pins σ H1 { s1 with heap := s1.heap.push { cls := .type "dict_items", data := .fields #[.ref d] } } := I1.kept (t' := s1.toks) fun b ob q => Heap.get?_push_of_some _ q
  show wpAny _ _ (callWith cpos (.builtin "dict.items") [.ref d] [] []) _ X.xe s1
  refine Calls.callWith_builtin rfl (PySem.evalArgs_none (DT.callItems hs raw ?_))
  refine DT.iterI (s := { s1 with heap := _ }) ⟨_, Heap.get?_push_size _ rfl, rfl, rfl⟩ (raw.push _) (pi_one (tk := s1.toks) I2 _ (turn_itemsT _ hdt) ⟨.none, .none, ?_⟩ q)
  rw [← hsz]
  exact Heap.get?_push_size _ rfl
theorem walk_itemsT {d : Addr} {o : Obj} {kvs : List (List Key × V)} : Walk (Itit d o kvs) kvs.length (fun H => H d = some (.frz o (.dT kvs)))
    (fun i H x H' => ∃ T k v q, kvs[i]? = some (k, v) ∧ x = .ref T ∧ H T = none ∧ H q = some (.tup (k.map kV)) ∧ H' = upd H T (.tup [.ref q, v])) :=
  ⟨fun _ _ hi q => ⟨q, hi⟩, fun _ q => ⟨q, Nat.le_refl _⟩, fun _ _ _ _ _ _ y => y⟩
end
/-! ### sorted(data) -/
def rSortD (K : PySem.W.Frag) : List V → Hp → VK → Prop := fun vs H Q => ∃ (a : Addr) (bs : List (V × PyData)), vs = [.ref a] ∧ SqL K H a (bs.map Prod.fst) ∧ (∀ b ∈ bs, Dp K H b.1 b.2) ∧ PySem.W.AllAlike (bs.map Prod.snd) ∧ PySem.W.Sortable (bs.map Prod.snd) ∧ (∀ b ∈ bs, b.2.depth ≤ 8) ∧
  ∀ p, H p = none → Q (.ref p) (upd H p (.lst ((bs.mergeSort (PySem.W.dataLe false Prod.snd)).map Prod.fst)))
theorem vals_each : ∀ {bs : List (V × PyData)} {us : List Value}, Vals (bs.map Prod.fst) us → PySem.W.EachIs (fun v (b : V × PyData) => RelV b.1 v) us bs
  | [], _, .nil => PySem.W.EachIs.nil
  | _ :: _, _, .cons e r => PySem.W.EachIs.cons e (vals_each r)
theorem each_vals : ∀ {bs : List (V × PyData)} {us : List Value}, PySem.W.EachIs (fun v (b : V × PyData) => RelV b.1 v) us bs → Vals (bs.map Prod.fst) us
  | _, _, .nil => .nil
  | _, _, .cons h1 h2 => .cons h1 (each_vals h2)
theorem each_reads {X : Cx} {pins : List (Addr × Obj)} {σ : L2.St} {H : Hp} {s : Shared} (I : L2.Inv X pins σ H s) : ∀ {bs : List (V × PyData)} {us : List Value}, Vals (bs.map Prod.fst) us → (∀ b ∈ bs, Dp X.K H b.1 b.2) → PySem.W.EachIs (fun v (b : V × PyData) => ∃ as, Reads s.heap v b.2 as) us bs
  | [], _, .nil, _ => PySem.W.EachIs.nil
  | b :: bs, _, .cons e r, h => PySem.W.EachIs.cons (Dp.reads I b.2 b.1 _ (h b List.mem_cons_self) e) (each_reads I r fun c hc => h c (List.mem_cons_of_mem _ hc))
theorem cr_sortedD {X : Cx} (hu : X.A.units + 64 < cLine) : CallR X (.builtin "sorted") (rSortD X.K) := by
  intro pins s σ H vs us Q I r h
  obtain ⟨a, bs, rfl, hs, hd, hal, hk, hdp, q⟩ := h
  obtain ⟨u, rfl, rx⟩ := vals1 r
  cases rx
  obtain ⟨its, rv, hl, hz⟩ := I.list hs
  rw [List.length_map] at hz
  refine PySem.W.sorted_data (enc := Prod.snd) hl.isList (vals_each rv) (each_reads I rv hd) hal hk hz (fun b hb => by have := hdp b hb; omega) fun out hlen he => ?_
  obtain ⟨c, hc⟩ := sortedAll_at s.heap its out.toArray
  have hz2 : ((bs.mergeSort (PySem.W.dataLe false Prod.snd)).map Prod.fst).length ≤ sizeLine := by rw [List.length_map, List.length_mergeSort]; exact hz
  exact ⟨.ref (s.heap.objs.size + 1), _, I.laid (t' := s.toks) (fun b o e => sortedAll_old e) (Nat.le_succ _) (show ObjOk X.prog X.w _ _ _ (.lst ((bs.mergeSort (PySem.W.dataLe false Prod.snd)).map Prod.fst)) from ⟨hz2, out, c, each_vals he, hc⟩), rfl, q _ (I.hok.fresh (Nat.le_succ _))⟩
end MN
/-! plain law of prices: closed prices (Floyd and Warshall), costs of changes by a table, a cheapest last change -/
namespace MN
abbrev Nd := Option Nat
/-- a node: no sign, or one of L -/
def InL (L : List Nat) (x : Nd) : Prop := ∀ a, x = some a → a ∈ L
theorem InL.no {L : List Nat} : InL L none := fun _ e => nomatch e
theorem InL.of {L : List Nat} {a : Nat} (h : a ∈ L) : InL L (some a) := fun _ e => by cases e; exact h
section
variable {L : List Nat} {r : Nd → Nd → Option Int}
inductive Path (L : List Nat) (r : Nd → Nd → Option Int) : Nd → Nd → Int → Prop
  | one {x y p} : InL L x → InL L y → r x y = some p → Path L r x y p
  | more {x y z t p} : Path L r x y t → InL L z → r y z = some p → Path L r x z (t + p)
theorem Path.cat {x y z : Nd} {s t : Int} (h1 : Path L r x y s) (h2 : Path L r y z t) : Path L r x z (s + t) := by
  induction h2 with
  | one _ hy e => exact h1.more hy e
  | more _ hz e ih => rw [← Int.add_assoc]; exact ih.more hz e
theorem Path.pos (hp : ∀ x y p, r x y = some p → 1 ≤ p) {x y : Nd} {t : Int} (h : Path L r x y t) : 1 ≤ t := by
  induction h with
  | one _ _ e => exact hp _ _ _ e
  | more _ _ e ih => have := hp _ _ _ e; omega
theorem Path.ends {x y : Nd} {t : Int} (h : Path L r x y t) : InL L x ∧ InL L y := by
  induction h with
  | one hx hy _ => exact ⟨hx, hy⟩
  | more _ hz _ ih => exact ⟨ih.1, hz⟩
/-- a table while it is being closed; M: the middles so far -/
structure Tb (L : List Nat) (r : Nd → Nd → Option Int) (M : Nd → Prop) (O : Nd → Nd → Option Int) : Prop where
  dg : ∀ x, O x x = none
  pa : ∀ x y t, O x y = some t → Path L r x y t
  le : ∀ x y p, InL L x → InL L y → r x y = some p → ∃ t, O x y = some t ∧ t ≤ p
  tri : ∀ m x y a b, M m → x ≠ y → O x m = some a → O m y = some b → ∃ t, O x y = some t ∧ t ≤ a + b
/-- one middle -/
def ph (m : Nd) (O : Nd → Nd → Option Int) : Nd → Nd → Option Int := fun x y => if x = y then O x y else match O x m, O m y with
  | some a, some b => some (match O x y with | none => a + b | some t => min (a + b) t)
  | _, _ => O x y
variable {m : Nd} {O : Nd → Nd → Option Int}
theorem ph_one {x y : Nd} {t : Int} (h : O x y = some t) : ∃ t', ph m O x y = some t' ∧ t' ≤ t := by
  unfold ph
  split
  · exact ⟨t, h, Int.le_refl _⟩
  · split
    · rw [h]; exact ⟨_, rfl, Int.min_le_right _ _⟩
    · exact ⟨t, h, Int.le_refl _⟩
theorem ph_two {x y : Nd} {a b : Int} (n : x ≠ y) (h1 : O x m = some a) (h2 : O m y = some b) : ∃ t', ph m O x y = some t' ∧ t' ≤ a + b := by
  unfold ph
  rw [if_neg n, h1, h2]
  cases O x y with
  | none => exact ⟨_, rfl, Int.le_refl _⟩
  | some t => exact ⟨_, rfl, Int.min_le_left _ _⟩
theorem ph_or {x y : Nd} {t : Int} (h : ph m O x y = some t) : O x y = some t ∨ ∃ a b, x ≠ y ∧ O x m = some a ∧ O m y = some b ∧ t = a + b := by
  unfold ph at h
  split at h
  · exact .inl h
  · rename_i n
    split at h
    · rename_i a b e1 e2
      cases e : O x y with
      | none => rw [e] at h; exact .inr ⟨a, b, n, e1, e2, (Option.some.inj h).symm⟩
      | some t0 =>
        rw [e] at h
        have h' : min (a + b) t0 = t := Option.some.inj h
        rcases Int.le_total (a + b) t0 with q | q
        · rw [Int.min_eq_left q] at h'; exact .inr ⟨a, b, n, e1, e2, h'.symm⟩
        · rw [Int.min_eq_right q] at h'; rw [h']; exact .inl rfl
    · exact .inl h
theorem Tb.phase {M : Nd → Prop} (hp : ∀ x y p, r x y = some p → 1 ≤ p) (T : Tb L r M O) : Tb L r (fun z => M z ∨ z = m) (ph m O) := by
  have po : ∀ {x y t}, O x y = some t → 1 ≤ t := fun h => (T.pa _ _ _ h).pos hp
  refine ⟨fun x => ?_, fun x y t h => ?_, fun x y p hx hy h => ?_, fun k x y a b hk n h1 h2 => ?_⟩
  · unfold ph; rw [if_pos rfl]; exact T.dg x
  · rcases ph_or h with h | ⟨a, b, _, h1, h2, rfl⟩
    · exact T.pa _ _ _ h
    · exact (T.pa _ _ _ h1).cat (T.pa _ _ _ h2)
  · obtain ⟨t, e, l⟩ := T.le x y p hx hy h
    obtain ⟨t', e', l'⟩ := ph_one (m := m) e
    exact ⟨t', e', by omega⟩
  · rcases hk with hk | rfl
    · rcases ph_or h1 with h1' | ⟨a1, a2, _, e1, e2, rfl⟩
      · clear h1
        rcases ph_or h2 with h2' | ⟨b1, b2, _, f1, f2, rfl⟩
        · obtain ⟨t, e, l⟩ := T.tri k x y a b hk n h1' h2'
          obtain ⟨t', e', l'⟩ := ph_one (m := m) e
          exact ⟨t', e', by omega⟩
        · by_cases q : x = m
          · subst q
            obtain ⟨t', e', l'⟩ := ph_one (m := x) f2
            have := po h1'; have := po f1
            exact ⟨t', e', by omega⟩
          · obtain ⟨t, e, l⟩ := T.tri k x m a b1 hk q h1' f1
            obtain ⟨t', e', l'⟩ := ph_two (m := m) n e f2
            exact ⟨t', e', by omega⟩
      · rcases ph_or h2 with h2 | ⟨b1, b2, _, f1, f2, rfl⟩
        · by_cases q : m = y
          · subst q
            obtain ⟨t', e', l'⟩ := ph_one (m := m) e1
            have := po h2; have := po e2
            exact ⟨t', e', by omega⟩
          · obtain ⟨t, e, l⟩ := T.tri k m y a2 b hk q e2 h2
            obtain ⟨t', e', l'⟩ := ph_two (m := m) n e1 e
            exact ⟨t', e', by omega⟩
        · obtain ⟨t', e', l'⟩ := ph_two (m := m) n e1 f2
          have := po e2; have := po f1
          exact ⟨t', e', by omega⟩
    · have g1 : O x k = some a := by
        rcases ph_or h1 with h | ⟨_, _, _, _, e, _⟩
        · exact h
        · rw [T.dg k] at e; cases e
      have g2 : O k y = some b := by
        rcases ph_or h2 with h | ⟨_, _, _, e, _⟩
        · exact h
        · rw [T.dg k] at e; cases e
      exact ph_two n g1 g2
/-- closed prices -/
structure Clo (L : List Nat) (r : Nd → Nd → Option Int) (c : Nd → Nd → Int) : Prop where
  z : ∀ x, c x x = 0
  pos : ∀ x y, InL L x → InL L y → x ≠ y → 1 ≤ c x y
  tri : ∀ x y z, InL L x → InL L y → InL L z → c x z ≤ c x y + c y z
  le : ∀ x y p, InL L x → InL L y → r x y = some p → c x y ≤ p
  last : ∀ x y, InL L x → InL L y → x ≠ y → ∃ z p, InL L z ∧ z ≠ y ∧ r z y = some p ∧ c x y = c x z + p
def cOf (O : Nd → Nd → Option Int) : Nd → Nd → Int := fun x y => (O x y).getD 0
theorem Tb.clo (hp : ∀ x y p, r x y = some p → 1 ≤ p) (hr : ∀ a ∈ L, (∃ p, r none (some a) = some p) ∧ ∃ p, r (some a) none = some p) (T : Tb L r (InL L) O) : Clo L r (cOf O) ∧ ∀ x y, InL L x → InL L y → x ≠ y → ∃ t, O x y = some t := by
  have tot : ∀ x y, InL L x → InL L y → x ≠ y → ∃ t, O x y = some t := fun x y hx hy n => by
    cases x with
    | none =>
      cases y with
      | none => exact absurd rfl n
      | some b =>
        obtain ⟨p, e⟩ := (hr b (hy b rfl)).1
        obtain ⟨t, h, _⟩ := T.le _ _ p hx hy e
        exact ⟨t, h⟩
    | some a =>
      obtain ⟨p, e⟩ := (hr a (hx a rfl)).2
      obtain ⟨t, h, _⟩ := T.le _ _ p hx InL.no e
      cases y with
      | none => exact ⟨t, h⟩
      | some b =>
        obtain ⟨q, f⟩ := (hr b (hy b rfl)).1
        obtain ⟨u, g, _⟩ := T.le _ _ q InL.no hy f
        obtain ⟨v, k, _⟩ := T.tri none _ _ t u InL.no n h g
        exact ⟨v, k⟩
  have c0 : ∀ x, cOf O x x = 0 := fun x => by unfold cOf; rw [T.dg x]; rfl
  have cv : ∀ {x y t}, O x y = some t → cOf O x y = t := fun e => by unfold cOf; rw [e]; rfl
  have tri : ∀ x y z, InL L x → InL L y → InL L z → cOf O x z ≤ cOf O x y + cOf O y z := fun x y z hx hy hz => by
    by_cases h1 : x = y
    · subst h1; rw [c0 x]; omega
    · by_cases h2 : y = z
      · subst h2; rw [c0 y]; omega
      · obtain ⟨a, ea⟩ := tot x y hx hy h1
        obtain ⟨b, eb⟩ := tot y z hy hz h2
        have pa := (T.pa _ _ _ ea).pos hp
        have pb := (T.pa _ _ _ eb).pos hp
        rw [cv ea, cv eb]
        by_cases h3 : x = z
        · subst h3; rw [c0 x]; omega
        · obtain ⟨t, et, lt⟩ := T.tri y x z a b hy h3 ea eb
          rw [cv et]; exact lt
  have le : ∀ x y p, InL L x → InL L y → r x y = some p → cOf O x y ≤ p := fun x y p hx hy e => by
    obtain ⟨t, et, lt⟩ := T.le x y p hx hy e
    rw [cv et]; exact lt
  refine ⟨⟨c0, fun x y hx hy n => ?_, tri, le, fun x y hx hy n => ?_⟩, tot⟩
  · obtain ⟨t, e⟩ := tot x y hx hy n
    rw [cv e]
    exact (T.pa _ _ _ e).pos hp
  · obtain ⟨t, e⟩ := tot x y hx hy n
    have lt : ∀ {z u}, Path L r x z u → cOf O x z ≤ u := fun h => by
      induction h with
      | one hx hy e => exact le _ _ _ hx hy e
      | more hh hz e ih =>
        have h1 := tri _ _ _ hx hh.ends.2 hz
        have h2 := le _ _ _ hh.ends.2 hz e
        omega
    have rn : ∀ {z q}, r z y = some q → InL L z → z ≠ y := fun {z q} e hz q' => by
      subst q'
      obtain ⟨t, et, _⟩ := T.le _ _ _ hz hz e
      rw [T.dg] at et; cases et
    rw [cv e]
    cases T.pa _ _ _ e with
    | one _ _ e' => exact ⟨x, t, hx, n, e', by rw [c0 x]; omega⟩
    | more hh hz2 e' =>
      rename_i z s p
      have h1 := lt hh
      have h2 := tri x z y hx hh.ends.2 hy
      have h3 := le z y p hh.ends.2 hy e'
      rw [cv e] at h2
      exact ⟨z, p, hh.ends.2, rn e' hh.ends.2, e', by omega⟩
/-- closed prices are closed -/
theorem Clo.same {c c' : Nd → Nd → Int} (C : Clo L r c) (C' : Clo L (fun x y => if x = y then none else some (c x y)) c') : ∀ x y, InL L x → InL L y → c' x y = c x y := by
  have key : ∀ (n : Nat) (x y : Nd), InL L x → InL L y → c' x y ≤ n → c x y ≤ c' x y := by
    intro n
    induction n with
    | zero =>
      intro x y hx hy h
      by_cases e : x = y
      · subst e; rw [C.z, C'.z]; exact Int.le_refl _
      · have := C'.pos x y hx hy e; omega
    | succ n ih =>
      intro x y hx hy h
      by_cases e : x = y
      · subst e; rw [C.z, C'.z]; exact Int.le_refl _
      · obtain ⟨z, p, hz, nz, er, ec⟩ := C'.last x y hx hy e
        have er' : (if z = y then none else some (c z y)) = some p := er
        rw [if_neg nz] at er'
        have ep : c z y = p := Option.some.inj er'
        have p1 := C.pos z y hz hy nz
        have h1 := ih x z hx hz (by omega)
        have h2 := C.tri x z y hx hz hy
        omega
  intro x y hx hy
  by_cases e : x = y
  · subst e; rw [C.z, C'.z]
  · have h1 : c' x y ≤ c x y := C'.le x y _ hx hy (by show (if x = y then none else some (c x y)) = _; rw [if_neg e])
    have h2 := key (c' x y).toNat x y hx hy (by have := C'.pos x y hx hy e; omega)
    omega
end
/-! ### costs -/
def Dc (c : Nd → Nd → Int) : List Nat → List Nat → Int
  | [], [] => 0
  | [], y :: v => Dc c [] v + c none (some y)
  | x :: u, [] => Dc c u [] + c (some x) none
  | x :: u, y :: v => min (min (Dc c u v + c (some x) (some y)) (Dc c u (y :: v) + c (some x) none)) (Dc c (x :: u) v + c none (some y))
section
variable {L : List Nat} {r : Nd → Nd → Option Int} {c : Nd → Nd → Int}
theorem Dc_put (C : Clo L r c) (y : Nat) (u v : List Nat) : Dc c u (y :: v) ≤ Dc c u v + c none (some y) := by
  cases u with
  | nil => simp [Dc]
  | cons x u => simp only [Dc]; omega
theorem Dc_out (C : Clo L r c) (x : Nat) (u v : List Nat) : Dc c (x :: u) v ≤ Dc c u v + c (some x) none := by
  cases v with
  | nil => simp [Dc]
  | cons y v => simp only [Dc]; omega
theorem Dc_sub (C : Clo L r c) (x y : Nat) (u v : List Nat) : Dc c (x :: u) (y :: v) ≤ Dc c u v + c (some x) (some y) := by simp only [Dc]; omega
theorem Dc_or {x y : Nat} {u v : List Nat} : Dc c (x :: u) (y :: v) = Dc c u v + c (some x) (some y) ∨ Dc c (x :: u) (y :: v) = Dc c u (y :: v) + c (some x) none ∨ Dc c (x :: u) (y :: v) = Dc c (x :: u) v + c none (some y) := by
  simp only [Dc]; omega
theorem Dc_self (C : Clo L r c) : ∀ u, Dc c u u ≤ 0
  | [] => by simp [Dc]
  | x :: u => by have := Dc_sub C x x u u; have := Dc_self C u; rw [C.z] at *; omega
theorem Dc_nn (C : Clo L r c) : ∀ u v, (∀ a ∈ u, a ∈ L) → (∀ a ∈ v, a ∈ L) → 0 ≤ Dc c u v ∧ (Dc c u v = 0 → u = v)
  | [], [], _, _ => ⟨by simp [Dc], fun _ => rfl⟩
  | [], y :: v, hu, hv => by
    have h1 := (Dc_nn C [] v hu fun a h => hv a (List.mem_cons_of_mem _ h)).1
    have h2 := C.pos none (some y) InL.no (InL.of (hv y List.mem_cons_self)) (fun e => nomatch e)
    simp only [Dc]
    exact ⟨by omega, fun e => by omega⟩
  | x :: u, [], hu, hv => by
    have h1 := (Dc_nn C u [] (fun a h => hu a (List.mem_cons_of_mem _ h)) hv).1
    have h2 := C.pos (some x) none (InL.of (hu x List.mem_cons_self)) InL.no (fun e => nomatch e)
    simp only [Dc]
    exact ⟨by omega, fun e => by omega⟩
  | x :: u, y :: v, hu, hv => by
    have hu' : ∀ a ∈ u, a ∈ L := fun a h => hu a (List.mem_cons_of_mem _ h)
    have hv' : ∀ a ∈ v, a ∈ L := fun a h => hv a (List.mem_cons_of_mem _ h)
    have hx := InL.of (hu x List.mem_cons_self)
    have hy := InL.of (hv y List.mem_cons_self)
    have h1 := Dc_nn C u v hu' hv'
    have h2 := (Dc_nn C u (y :: v) hu' hv).1
    have h3 := (Dc_nn C (x :: u) v hu hv').1
    have p2 := C.pos (some x) none hx InL.no (fun e => nomatch e)
    have p3 := C.pos none (some y) InL.no hy (fun e => nomatch e)
    by_cases e : x = y
    · subst e
      rcases Dc_or (c := c) (x := x) (y := x) (u := u) (v := v) with q | q | q
      · rw [q, C.z]
        exact ⟨by omega, fun e => by rw [h1.2 (by omega)]⟩
      · rw [q]; exact ⟨by omega, fun e => by omega⟩
      · rw [q]; exact ⟨by omega, fun e => by omega⟩
    · have p1 := C.pos (some x) (some y) hx hy (fun q => e (Option.some.inj q))
      rcases Dc_or (c := c) (x := x) (y := y) (u := u) (v := v) with q | q | q
      · rw [q]; exact ⟨by omega, fun e => by omega⟩
      · rw [q]; exact ⟨by omega, fun e => by omega⟩
      · rw [q]; exact ⟨by omega, fun e => by omega⟩
/-- one change at some place, by the prices f -/
inductive Chg (L : List Nat) (f : Nd → Nd → Option Int) : List Nat → List Nat → Int → Prop
  | put {y v s} : y ∈ L → f none (some y) = some s → Chg L f v (y :: v) s
  | out {y v s} : y ∈ L → f (some y) none = some s → Chg L f (y :: v) v s
  | swp {y z v s} : y ∈ L → z ∈ L → f (some y) (some z) = some s → Chg L f (y :: v) (z :: v) s
  | cons {y v w s} : Chg L f v w s → Chg L f (y :: v) (y :: w) s
theorem Dc_end (C : Clo L r c) {y z : Nd} {s : Int} (hy : InL L y) (hz : InL L z) (h : c y z ≤ s) : ∀ u v, (∀ a ∈ u, a ∈ L) → Dc c u (z.toList ++ v) ≤ Dc c u (y.toList ++ v) + s := by
  have h0 : 0 ≤ c y z := by
    by_cases e : y = z
    · subst e; rw [C.z]; exact Int.le_refl _
    · have := C.pos y z hy hz e; omega
  cases y with
  | none =>
    cases z with
    | none => intro u v _; simp; omega
    | some z =>
      intro u v _
      have := Dc_put C z u v
      simp at this ⊢; omega
  | some y =>
    intro u
    induction u with
    | nil =>
      intro v _
      cases z with
      | none =>
        show Dc c [] v ≤ Dc c [] (y :: v) + s
        have := C.pos none (some y) InL.no hy (fun e => nomatch e)
        simp only [Dc]; omega
      | some z =>
        show Dc c [] (z :: v) ≤ Dc c [] (y :: v) + s
        have := C.tri none (some y) (some z) InL.no hy hz
        simp only [Dc]; omega
    | cons x u ih =>
      intro v hu
      have hx := InL.of (hu x List.mem_cons_self)
      have hu' : ∀ a ∈ u, a ∈ L := fun a h => hu a (List.mem_cons_of_mem _ h)
      have i1 := ih v hu'
      cases z with
      | none =>
        show Dc c (x :: u) v ≤ Dc c (x :: u) (y :: v) + s
        have i1' : Dc c u v ≤ Dc c u (y :: v) + s := i1
        have o1 := Dc_out C x u v
        rcases Dc_or (c := c) (x := x) (y := y) (u := u) (v := v) with q | q | q
        · have := C.tri (some x) (some y) none hx hy InL.no; omega
        · omega
        · have := C.pos none (some y) InL.no hy (fun e => nomatch e); omega
      | some z =>
        show Dc c (x :: u) (z :: v) ≤ Dc c (x :: u) (y :: v) + s
        have i1' : Dc c u (z :: v) ≤ Dc c u (y :: v) + s := i1
        have o1 := Dc_out C x u (z :: v)
        have o2 := Dc_sub C x z u v
        have o3 := Dc_put C z (x :: u) v
        rcases Dc_or (c := c) (x := x) (y := y) (u := u) (v := v) with q | q | q
        · have := C.tri (some x) (some y) (some z) hx hy hz; omega
        · omega
        · have := C.tri none (some y) (some z) InL.no hy hz; omega
theorem Dc_in {v w : List Nat} {s : Int} (C : Clo L r c) (y : Nat) (hs : ∀ u, (∀ a ∈ u, a ∈ L) → Dc c u w ≤ Dc c u v + s) : ∀ u, (∀ a ∈ u, a ∈ L) → Dc c u (y :: w) ≤ Dc c u (y :: v) + s := by
  intro u
  induction u with
  | nil => intro hu; have := hs [] hu; simp only [Dc]; omega
  | cons x u ih =>
    intro hu
    have hu' : ∀ a ∈ u, a ∈ L := fun a h => hu a (List.mem_cons_of_mem _ h)
    have h1 := hs u hu'
    have h2 := hs (x :: u) hu
    have h3 := ih hu'
    have o1 := Dc_out C x u (y :: w)
    have o2 := Dc_sub C x y u w
    have o3 := Dc_put C y (x :: u) w
    rcases Dc_or (c := c) (x := x) (y := y) (u := u) (v := v) with q | q | q <;> omega
/-- a change changes a cost by at most its price -/
theorem Dc_lip (C : Clo L r c) {v w : List Nat} {s : Int} (h : Chg L r v w s) : ∀ u, (∀ a ∈ u, a ∈ L) → Dc c u w ≤ Dc c u v + s := by
  induction h with
  | @put y v s hy e => exact fun u hu => Dc_end C InL.no (InL.of hy) (C.le _ _ _ InL.no (InL.of hy) e) u v hu
  | @out y v s hy e => exact fun u hu => Dc_end C (InL.of hy) InL.no (C.le _ _ _ (InL.of hy) InL.no e) u v hu
  | @swp y z v s hy hz e => exact fun u hu => Dc_end C (InL.of hy) (InL.of hz) (C.le _ _ _ (InL.of hy) (InL.of hz) e) u v hu
  | @cons y v w s _ ih => exact Dc_in C y ih
/-- a cheapest way has a last change -/
theorem Dc_pre (C : Clo L r c) : ∀ u v, (∀ a ∈ u, a ∈ L) → (∀ a ∈ v, a ∈ L) → u ≠ v → ∃ w s, Chg L r w v s ∧ (∀ a ∈ w, a ∈ L) ∧ Dc c u w + s ≤ Dc c u v ∧ (w.length ≤ v.length ∨ (w.length = v.length + 1 ∧ v.length < u.length)) := by
  have putw : ∀ (u v : List Nat) (y : Nat), y ∈ L → (∀ a ∈ v, a ∈ L) → ∃ w s, Chg L r w (y :: v) s ∧ (∀ a ∈ w, a ∈ L) ∧ Dc c u w + s ≤ Dc c u v + c none (some y) ∧ w.length ≤ (y :: v).length := fun u v y hy hv => by
    obtain ⟨z, p, hz, nz, er, ec⟩ := C.last none (some y) InL.no (InL.of hy) (fun e => nomatch e)
    cases z with
    | none => exact ⟨v, p, .put hy er, hv, by rw [C.z] at ec; omega, Nat.le_succ _⟩
    | some z =>
      refine ⟨z :: v, p, .swp (hz z rfl) hy er, fun a ha => ?_, ?_, Nat.le_refl _⟩
      · rcases List.mem_cons.mp ha with rfl | ha
        · exact hz _ rfl
        · exact hv a ha
      · have := Dc_put C z u v; omega
  intro u
  induction u with
  | nil =>
    intro v hu hv n
    cases v with
    | nil => exact absurd rfl n
    | cons y v =>
      obtain ⟨w, s, h1, h2, h3, h4⟩ := putw [] v y (hv y List.mem_cons_self) fun a h => hv a (List.mem_cons_of_mem _ h)
      exact ⟨w, s, h1, h2, by simp only [Dc]; exact h3, .inl h4⟩
  | cons x u ih =>
    intro v
    induction v with
    | nil =>
      intro hu hv _
      have hx := hu x List.mem_cons_self
      have hu' : ∀ a ∈ u, a ∈ L := fun a h => hu a (List.mem_cons_of_mem _ h)
      by_cases e : u = []
      · subst e
        obtain ⟨z, p, hz, nz, er, ec⟩ := C.last (some x) none (InL.of hx) InL.no (fun e => nomatch e)
        cases z with
        | none => exact absurd rfl nz
        | some z =>
          refine ⟨[z], p, .out (hz z rfl) er, fun a ha => ?_, ?_, .inr ⟨rfl, Nat.zero_lt_succ _⟩⟩
          · rcases List.mem_cons.mp ha with rfl | ha
            · exact hz _ rfl
            · cases ha
          · have := Dc_sub C x z [] []; simp only [Dc] at this ⊢; omega
      · obtain ⟨w, s, h1, h2, h3, h4⟩ := ih [] hu' hv e
        refine ⟨w, s, h1, h2, ?_, h4.imp id fun q => ⟨q.1, by simp⟩⟩
        have := Dc_out C x u w; simp only [Dc]; omega
    | cons y v ihv =>
      intro hu hv n
      have hx := hu x List.mem_cons_self
      have hy := hv y List.mem_cons_self
      have hu' : ∀ a ∈ u, a ∈ L := fun a h => hu a (List.mem_cons_of_mem _ h)
      have hv' : ∀ a ∈ v, a ∈ L := fun a h => hv a (List.mem_cons_of_mem _ h)
      rcases Dc_or (c := c) (x := x) (y := y) (u := u) (v := v) with q | q | q
      · by_cases e : x = y
        · subst e
          have n' : u ≠ v := fun e => n (by rw [e])
          obtain ⟨w, s, h1, h2, h3, h4⟩ := ih v hu' hv' n'
          refine ⟨x :: w, s, .cons h1, fun a ha => ?_, ?_, h4.imp Nat.succ_le_succ fun q => ⟨by simp [q.1], by simp [q.2]⟩⟩
          · rcases List.mem_cons.mp ha with rfl | ha
            · exact hx
            · exact h2 a ha
          · have := Dc_sub C x x u w; rw [C.z] at *; omega
        · obtain ⟨z, p, hz, nz, er, ec⟩ := C.last (some x) (some y) (InL.of hx) (InL.of hy) (fun q => e (Option.some.inj q))
          cases z with
          | none =>
            refine ⟨v, p, .put hy er, hv', ?_, .inl (Nat.le_succ _)⟩
            have := Dc_out C x u v; omega
          | some z =>
            refine ⟨z :: v, p, .swp (hz z rfl) hy er, fun a ha => ?_, ?_, .inl (Nat.le_refl _)⟩
            · rcases List.mem_cons.mp ha with rfl | ha
              · exact hz _ rfl
              · exact hv' a ha
            · have := Dc_sub C x z u v; omega
      · by_cases e : u = y :: v
        · subst e
          obtain ⟨z, p, hz, nz, er, ec⟩ := C.last (some x) none (InL.of hx) InL.no (fun e => nomatch e)
          cases z with
          | none => exact absurd rfl nz
          | some z =>
            refine ⟨z :: y :: v, p, .out (hz z rfl) er, fun a ha => ?_, ?_, .inr ⟨rfl, by simp⟩⟩
            · rcases List.mem_cons.mp ha with rfl | ha
              · exact hz _ rfl
              · exact hv a ha
            · have := Dc_sub C x z (y :: v) (y :: v); omega
        · obtain ⟨w, s, h1, h2, h3, h4⟩ := ih (y :: v) hu' hv e
          refine ⟨w, s, h1, h2, ?_, h4.imp id fun q => ⟨q.1, by have := q.2; simp at this ⊢; omega⟩⟩
          have := Dc_out C x u w; omega
      · obtain ⟨w, s, h1, h2, h3, h4⟩ := putw (x :: u) v y hy hv'
        exact ⟨w, s, h1, h2, by omega, .inl h4⟩
end
end MN
/-! plain law of rows: ways between states, rows of words -/
namespace MN
/-- from a state by a word (turned round) to a state -/
inductive LedR (ed : Nat → Nat → Nat → Prop) : Nat → List Nat → Nat → Prop
  | nil {p} : LedR ed p [] p
  | cons {p v q a t} : LedR ed p v q → ed q a t → LedR ed p (a :: v) t
def sumP (pc : Nat → Int) : List Nat → Int
  | [] => 0
  | a :: v => sumP pc v + pc a
theorem sumP_app (pc : Nat → Int) : ∀ u v, sumP pc (u ++ v) = sumP pc u + sumP pc v
  | [], v => by simp [sumP]
  | a :: u, v => by
    show sumP pc (u ++ v) + pc a = sumP pc u + pc a + sumP pc v
    rw [sumP_app pc u v]; omega
theorem LedR.app {ed : Nat → Nat → Nat → Prop} {p q t : Nat} {u v : List Nat} (h1 : LedR ed p u q) (h2 : LedR ed q v t) : LedR ed p (v ++ u) t := by
  induction h2 with
  | nil => exact h1
  | cons _ e ih => exact .cons ih e
section
variable {ed : Nat → Nat → Nat → Prop} {n : Nat} {pc : Nat → Int} {far : Int}
/-- ways between states; M: the states that they may go through -/
structure FwOk (ed : Nat → Nat → Nat → Prop) (n : Nat) (pc : Nat → Int) (far : Int) (M : Nat → Prop) (W : Nat → Nat → Int) : Prop where
  z : ∀ p, p < n → W p p = 0
  nn : ∀ p t, p < n → t < n → 0 ≤ W p t
  tri : ∀ q p t, M q → q < n → p < n → t < n → W p t ≤ W p q + W q t
  eg : ∀ p a t, p < n → t < n → ed p a t → W p t ≤ pc a
  at_ : ∀ p t, p < n → t < n → far ≤ W p t ∨ ∃ v, LedR ed p v t ∧ sumP pc v = W p t
def lowW (m : Nat) (W : Nat → Nat → Int) : Nat → Nat → Int := fun p t => min (W p t) (W p m + W m t)
theorem FwOk.phase {M : Nat → Prop} {W : Nat → Nat → Int} {m : Nat} (hm : m < n) (F : FwOk ed n pc far M W) : FwOk ed n pc far (fun q => M q ∨ q = m) (lowW m W) := by
  have zm := F.z m hm
  refine ⟨fun p hp => ?_, fun p t hp ht => ?_, fun q p t hq qn hp ht => ?_, fun p a t hp ht e => ?_, fun p t hp ht => ?_⟩
  · have h1 := F.z p hp
    have h2 := F.nn p m hp hm
    have h3 := F.nn m p hm hp
    unfold lowW
    omega
  · have h1 := F.nn p t hp ht
    have h2 := F.nn p m hp hm
    have h3 := F.nn m t hm ht
    unfold lowW
    omega
  · have a1 := F.nn p m hp hm
    have a2 := F.nn m t hm ht
    have a3 := F.nn q m qn hm
    have a4 := F.nn m q hm qn
    unfold lowW
    rcases hq with hq | rfl
    · have t1 := F.tri q p t hq qn hp ht
      have t2 := F.tri q m t hq qn hm ht
      have t3 := F.tri q p m hq qn hp hm
      omega
    · omega
  · have h1 := F.eg p a t hp ht e
    unfold lowW
    omega
  · have h1 := F.at_ p t hp ht
    unfold lowW
    by_cases c : W p t ≤ W p m + W m t
    · rw [Int.min_eq_left c]; exact h1
    · rw [Int.min_eq_right (by omega)]
      have b1 := F.nn p m hp hm
      have b2 := F.nn m t hm ht
      rcases F.at_ p m hp hm with g | ⟨v, g1, g2⟩
      · exact .inl (by omega)
      · rcases F.at_ m t hm ht with g | ⟨u, g3, g4⟩
        · exact .inl (by omega)
        · exact .inr ⟨u ++ v, g1.app g3, by rw [sumP_app]; omega⟩
/-- closed ways -/
abbrev WaysOk (ed : Nat → Nat → Nat → Prop) (n : Nat) (pc : Nat → Int) (far : Int) (W : Nat → Nat → Int) : Prop := FwOk ed n pc far (fun q => q < n) W
theorem WaysOk.led {W : Nat → Nat → Int} (F : WaysOk ed n pc far W) (hed : ∀ p a t, ed p a t → p < n ∧ t < n) {p t : Nat} {v : List Nat} (h : LedR ed p v t) (hp : p < n) : W p t ≤ sumP pc v := by
  induction h with
  | nil => rw [F.z _ hp]; exact Int.le_refl _
  | @cons v q a t h e ih =>
    obtain ⟨qn, tn⟩ := hed _ _ _ e
    have t1 := F.tri q p t qn qn hp tn
    have t2 := F.eg q a t qn tn e
    show W p t ≤ sumP pc v + pc a
    omega
/-- the row of a word (turned round) -/
structure RowOk (ed : Nat → Nat → Nat → Prop) (n : Nat) (c : Nd → Nd → Int) (far : Int) (u : List Nat) (row : Nat → Int) : Prop where
  nn : ∀ t, t < n → 0 ≤ row t
  lo : ∀ t v, t < n → LedR ed 0 v t → row t ≤ Dc c u v
  at_ : ∀ t, t < n → far ≤ row t ∨ ∃ v, LedR ed 0 v t ∧ Dc c u v ≤ row t
theorem Dc_nil {c : Nd → Nd → Int} : ∀ v : List Nat, Dc c [] v = sumP (fun a => c none (some a)) v
  | [] => by simp only [Dc, sumP]
  | a :: v => by simp only [Dc, sumP]; rw [Dc_nil v]
theorem row_start {c : Nd → Nd → Int} {W : Nat → Nat → Int} (hn : 0 < n) (hed : ∀ p a t, ed p a t → p < n ∧ t < n) (F : WaysOk ed n (fun a => c none (some a)) far W) : RowOk ed n c far [] (W 0) := by
  refine ⟨fun t ht => F.nn 0 t hn ht, fun t v ht h => ?_, fun t ht => ?_⟩
  · rw [Dc_nil]; exact F.led hed h hn
  · rcases F.at_ 0 t hn ht with h | ⟨v, h1, h2⟩
    · exact .inl h
    · exact .inr ⟨v, h1, by rw [Dc_nil, h2]; exact Int.le_refl _⟩
/-- behind one more sign -/
theorem row_behind {L : List Nat} {r : Nd → Nd → Option Int} {c : Nd → Nd → Int} (C : Clo L r c) {W : Nat → Nat → Int} (hn : 0 < n) (hed : ∀ p a t, ed p a t → p < n ∧ t < n ∧ a ∈ L) (F : WaysOk ed n (fun a => c none (some a)) far W)
    {u : List Nat} {row found res : Nat → Int} {s : Nat} (hs : s ∈ L) (R : RowOk ed n c far u row)
    (f1 : ∀ t, t < n → found t ≤ row t + c (some s) none) (f2 : ∀ p a t, ed p a t → found t ≤ row p + c (some s) (some a)) (f3 : ∀ t, t < n → found t = row t + c (some s) none ∨ ∃ p a, ed p a t ∧ found t = row p + c (some s) (some a))
    (r1 : ∀ q t, q < n → t < n → res t ≤ found q + W q t) (r2 : ∀ t, t < n → ∃ q, q < n ∧ res t = found q + W q t) : RowOk ed n c far (s :: u) res := by
  have c0 : 0 ≤ c (some s) none := by have := C.pos (some s) none (InL.of hs) InL.no (fun e => nomatch e); omega
  have cs : ∀ a, a ∈ L → 0 ≤ c (some s) (some a) := fun a ha => by
    by_cases e : s = a
    · rw [e, C.z]; exact Int.le_refl _
    · have := C.pos (some s) (some a) (InL.of hs) (InL.of ha) (fun q => e (Option.some.inj q)); omega
  have fn : ∀ t, t < n → 0 ≤ found t := fun t ht => by
    rcases f3 t ht with h | ⟨p, a, h1, h2⟩
    · have := R.nn t ht; omega
    · obtain ⟨pn, _, aL⟩ := hed _ _ _ h1
      have := R.nn p pn
      have := cs a aL
      omega
  have hed' : ∀ p a t, ed p a t → p < n ∧ t < n := fun p a t h => ⟨(hed p a t h).1, (hed p a t h).2.1⟩
  refine ⟨fun t ht => ?_, fun t v ht h => ?_, fun t ht => ?_⟩
  · obtain ⟨q, qn, e⟩ := r2 t ht
    have := fn q qn
    have := F.nn q t qn ht
    omega
  · have self : ∀ t, t < n → res t ≤ found t := fun t ht => by have := r1 t t ht ht; rw [F.z t ht] at this; omega
    have step : ∀ p a t, ed p a t → res t ≤ res p + c none (some a) := fun p a t e => by
      obtain ⟨pn, tn, _⟩ := hed p a t e
      obtain ⟨q, qn, eq⟩ := r2 p pn
      have h1 := r1 q t qn tn
      have h2 := F.tri p q t pn pn qn tn
      have h3 := F.eg p a t pn tn e
      have h3' : W p t ≤ c none (some a) := h3
      omega
    induction v generalizing t with
    | nil =>
      cases h
      have h1 := self 0 ht
      have h2 := f1 0 ht
      have h3 := R.lo 0 [] ht .nil
      simp only [Dc] at h3 ⊢
      omega
    | cons y v ih =>
      cases h with
      | cons h0 e =>
        rename_i p
        obtain ⟨pn, tn, _⟩ := hed _ _ _ e
        rcases Dc_or (c := c) (x := s) (y := y) (u := u) (v := v) with q | q | q
        · have h1 := R.lo p v pn h0
          have h2 := f2 p y t e
          have h3 := self t tn
          omega
        · have h1 := R.lo t (y :: v) tn (.cons h0 e)
          have h2 := f1 t tn
          have h3 := self t tn
          omega
        · have h1 := ih p pn h0
          have h2 := step p y t e
          omega
  · obtain ⟨q, qn, e⟩ := r2 t ht
    have fq := fn q qn
    rcases F.at_ q t qn ht with g | ⟨x, g1, g2⟩
    · exact .inl (by omega)
    · have wn := F.nn q t qn ht
      have base : ∀ v, Dc c (s :: u) (x ++ v) ≤ Dc c (s :: u) v + W q t := fun v => by
        rw [← g2]
        clear g1 g2
        induction x with
        | nil => simp [sumP]
        | cons a x ih =>
          have := Dc_put C a (s :: u) (x ++ v)
          show Dc c (s :: u) (a :: (x ++ v)) ≤ _
          simp only [sumP]
          omega
      rcases f3 q qn with h | ⟨p, a, h1, h2⟩
      · rcases R.at_ q qn with k | ⟨v, k1, k2⟩
        · exact .inl (by omega)
        · refine .inr ⟨x ++ v, k1.app g1, ?_⟩
          have b1 := base v
          have b2 := Dc_out C s u v
          omega
      · obtain ⟨pn, _, aL⟩ := hed _ _ _ h1
        have ca := cs a aL
        rcases R.at_ p pn with k | ⟨v, k1, k2⟩
        · exact .inl (by omega)
        · refine .inr ⟨x ++ a :: v, (LedR.cons k1 h1).app g1, ?_⟩
          have b1 := base (a :: v)
          have b2 := Dc_sub C s a u v
          omega
theorem RowOk.exact {c : Nd → Nd → Int} {u : List Nat} {row : Nat → Int} (R : RowOk ed n c far u row) {t : Nat} (ht : t < n) (h : ∃ v, LedR ed 0 v t ∧ Dc c u v < far) : ∃ v, LedR ed 0 v t ∧ Dc c u v = row t := by
  obtain ⟨v0, h1, h2⟩ := h
  have h3 := R.lo t v0 ht h1
  rcases R.at_ t ht with g | ⟨v, g1, g2⟩
  · omega
  · exact ⟨v, g1, by have := R.lo t v ht g1; omega⟩
theorem RowOk.uniq {c : Nd → Nd → Int} {u : List Nat} {r1 r2 : Nat → Int} (R1 : RowOk ed n c far u r1) (R2 : RowOk ed n c far u r2) {t : Nat} (ht : t < n) (h : ∃ v, LedR ed 0 v t ∧ Dc c u v < far) : r1 t = r2 t := by
  obtain ⟨v1, a1, b1⟩ := R1.exact ht h
  obtain ⟨v2, a2, b2⟩ := R2.exact ht h
  have := R1.lo t v2 ht a2
  have := R2.lo t v1 ht a1
  omega
/-- words that lead somewhere are of the signs -/
theorem LedR.over {L : List Nat} (hed : ∀ p a t, ed p a t → p < n ∧ t < n ∧ a ∈ L) {p t : Nat} {v : List Nat} (h : LedR ed p v t) : ∀ a ∈ v, a ∈ L := by
  induction h with
  | nil => intro a ha; cases ha
  | cons _ e ih =>
    intro b hb
    rcases List.mem_cons.mp hb with rfl | hb
    · exact (hed _ _ _ e).2.2
    · exact ih b hb
end
/-- longer words have that many signs put in -/
theorem Dc_long {L : List Nat} {r : Nd → Nd → Option Int} {c : Nd → Nd → Int} (C : Clo L r c) {k : Int} (k0 : 0 ≤ k) (hk : ∀ a ∈ L, k ≤ c none (some a)) : ∀ u v : List Nat, (∀ a ∈ u, a ∈ L) → (∀ a ∈ v, a ∈ L) → ((v.length : Int) - u.length) * k ≤ Dc c u v
  | [], [], _, _ => by simp [Dc]
  | [], y :: v, hu, hv => by
    have h1 := Dc_long C k0 hk [] v hu fun a h => hv a (List.mem_cons_of_mem _ h)
    have h2 := hk y (hv y List.mem_cons_self)
    simp only [Dc, List.length_cons, List.length_nil] at h1 ⊢
    have e : (((v.length + 1 : Nat) : Int) - ((0 : Nat) : Int)) * k = ((v.length : Int) - ((0 : Nat) : Int)) * k + k := by
      rw [show (((v.length + 1 : Nat) : Int) - ((0 : Nat) : Int)) = ((v.length : Int) - ((0 : Nat) : Int)) + 1 by omega, Int.add_mul, Int.one_mul]
    rw [e]; omega
  | x :: u, [], hu, hv => by
    have h := (Dc_nn C (x :: u) [] hu hv).1
    have : (((([] : List Nat).length : Nat) : Int) - ((x :: u).length : Int)) * k ≤ 0 := by
      refine Int.mul_nonpos_of_nonpos_of_nonneg ?_ k0
      simp only [List.length_nil, List.length_cons]; omega
    omega
  | x :: u, y :: v, hu, hv => by
    have hu' : ∀ a ∈ u, a ∈ L := fun a h => hu a (List.mem_cons_of_mem _ h)
    have hv' : ∀ a ∈ v, a ∈ L := fun a h => hv a (List.mem_cons_of_mem _ h)
    have h1 := Dc_long C k0 hk u v hu' hv'
    have h2 := Dc_long C k0 hk u (y :: v) hu' hv
    have h3 := Dc_long C k0 hk (x :: u) v hu hv'
    have hx := hu x List.mem_cons_self
    have hy := hv y List.mem_cons_self
    have c1 : 0 ≤ c (some x) (some y) := by
      by_cases e : x = y
      · rw [e, C.z]; exact Int.le_refl _
      · have := C.pos (some x) (some y) (InL.of hx) (InL.of hy) (fun q => e (Option.some.inj q)); omega
    have c2 : 0 ≤ c (some x) none := by have := C.pos (some x) none (InL.of hx) InL.no (fun e => nomatch e); omega
    have c3 := hk y hy
    simp only [List.length_cons] at h1 h2 h3 ⊢
    have e1 : (((v.length + 1 : Nat) : Int) - ((u.length + 1 : Nat) : Int)) * k = ((v.length : Int) - (u.length : Int)) * k := by
      rw [show (((v.length + 1 : Nat) : Int) - ((u.length + 1 : Nat) : Int)) = ((v.length : Int) - (u.length : Int)) by omega]
    have e2 : (((v.length + 1 : Nat) : Int) - (u.length : Int)) * k = ((v.length : Int) - (u.length : Int)) * k + k := by
      rw [show (((v.length + 1 : Nat) : Int) - (u.length : Int)) = ((v.length : Int) - (u.length : Int)) + 1 by omega, Int.add_mul, Int.one_mul]
    have e3 : ((v.length : Int) - ((u.length + 1 : Nat) : Int)) * k = ((v.length : Int) - (u.length : Int)) * k - k := by
      rw [show ((v.length : Int) - ((u.length + 1 : Nat) : Int)) = ((v.length : Int) - (u.length : Int)) - 1 by omega, Int.sub_mul, Int.one_mul]
    rw [e1]
    rw [e2] at h2
    rw [e3] at h3
    rcases Dc_or (c := c) (x := x) (y := y) (u := u) (v := v) with q | q | q <;> omega
end MN
/-! the draws of the laws k05 .. k09: choices, alphabet, choice, rates -/
namespace MN
open PySem PySem.Spec PyProof.Rows L2
theorem mergeK_nodup {more : List (Key × V)} : ∀ (kvs : List (Key × V)), ((kvs ++ more).map (·.1)).Nodup → mergeK kvs more = kvs ++ more := by
  induction more with
  | nil => intro kvs _; rw [List.append_nil]; rfl
  | cons p more ih =>
    intro kvs hn
    have hnew : p.1 ∉ kvs.map (·.1) := fun hm => by
      rw [List.map_append, List.map_cons] at hn
      exact (List.nodup_append.mp hn).2.2 p.1 hm p.1 List.mem_cons_self rfl
    have hp : putK kvs p.1 p.2 = kvs ++ [(p.1, p.2)] := by
      unfold putK
      rw [if_neg]
      intro q
      obtain ⟨kv, h1, h2⟩ := List.any_eq_true.mp q
      exact hnew (List.mem_map.mpr ⟨kv, h1, of_decide_eq_true h2⟩)
    show mergeK (putK kvs p.1 p.2) more = _
    rw [hp]
    have e : kvs ++ p :: more = (kvs ++ [(p.1, p.2)]) ++ more := by simp
    rw [ih _ (by rw [← e]; exact hn), e]
/-- prices by signs, in the signs' order -/
def dkF (zs : List Str) (g : Str → Int) : List (Key × V) := zs.map fun z => (Sum.inr z, V.int (g z))
theorem dkF_keys (zs : List Str) (g : Str → Int) : (dkF zs g).map (·.1) = zs.map Sum.inr := by
  unfold dkF; rw [List.map_map]; rfl
theorem SgnOk.nodup {zs : List Str} (h : SgnOk zs) : zs.Nodup := h.asc.imp fun {a b} hab e => by rw [e] at hab; exact List.lt_irrefl _ hab
theorem nodup_map {α β : Type} {f : α → β} (hf : ∀ a b, f a = f b → a = b) : ∀ {l : List α}, l.Nodup → (l.map f).Nodup := by
  intro l h
  rw [List.Nodup, List.pairwise_map]
  exact h.imp fun {a b} hab e => hab (hf a b e)
theorem dkF_nodup {zs : List Str} (h : zs.Nodup) (g : Str → Int) : ((dkF zs g).map (·.1)).Nodup := by
  rw [dkF_keys]
  exact nodup_map (fun a b e => Sum.inr.inj e) h
/-- swap prices: pairs of signs, in some order -/
def dtF (ps : List ((Str × Str) × Int)) : List (List Key × V) := ps.map fun x => ([Sum.inr x.1.1, Sum.inr x.1.2], V.int x.2)
theorem dtF_nodup {ps : List ((Str × Str) × Int)} (h : (ps.map Prod.fst).Nodup) : ((dtF ps).map (·.1)).Nodup := by
  unfold dtF
  rw [List.map_map]
  have e : ps.map ((fun x : List Key × V => x.1) ∘ fun x : (Str × Str) × Int => ([Sum.inr x.1.1, Sum.inr x.1.2], V.int x.2)) = (ps.map Prod.fst).map fun q => ([Sum.inr q.1, Sum.inr q.2] : List Key) := by
    rw [List.map_map]; rfl
  rw [e]
  refine nodup_map (fun a b hab => ?_) h
  injection hab with h1 h2
  injection h2 with h2 _
  exact Prod.ext (Sum.inr.inj h1) (Sum.inr.inj h2)
end MN
/-! prices: what they hold; is_pair, are_prices -/
namespace MN
open PySem PySem.Spec PyProof.Rows L2
/-- good prices: put and out by signs, swaps by pairs -/
structure PrN (zs zs2 : List Str) (g o : Str → Int) (ps : List ((Str × Str) × Int)) : Prop where
  sg : ∀ z ∈ zs, ∃ c ∈ ("abcde" : Str).cps.toList, z = ⟨#[c]⟩
  nd : zs.Nodup
  pos : 0 < zs.length
  le : zs.length ≤ 5
  pm : zs2.Perm zs
  pg : ∀ z ∈ zs, 1 ≤ g z ∧ g z ≤ 9
  po : ∀ z ∈ zs, 1 ≤ o z ∧ o z ≤ 9
  sn : (ps.map Prod.fst).Nodup
  sp : ∀ x ∈ ps, x.1.1 ∈ zs ∧ x.1.2 ∈ zs ∧ x.1.1 ≠ x.1.2 ∧ 1 ≤ x.2 ∧ x.2 ≤ 18
  sl : ps.length ≤ 100
theorem isSign_one {z : Str} (h : ∃ c ∈ ("abcde" : Str).cps.toList, z = ⟨#[c]⟩) : isSign (.str z) = true := by
  obtain ⟨c, hc, rfl⟩ := h
  simp only [isSign, isWordS, Bool.and_eq_true, decide_eq_true_eq]
  refine ⟨rfl, ?_⟩
  simp only [List.all_cons, List.all_nil, Bool.and_true, sgn, decide_eq_true_eq]
  exact hc
theorem len_one {z : Str} (h : ∃ c ∈ ("abcde" : Str).cps.toList, z = ⟨#[c]⟩) : z.length = 1 := by
  obtain ⟨c, hc, rfl⟩ := h
  rfl
theorem valV_of {α : Type} [DecidableEq α] {kvs : List (α × V)} (nd : (kvs.map (·.1)).Nodup) {k : α} {v : V} (h : (k, v) ∈ kvs) : valV kvs k = some v := by
  induction kvs with
  | nil => cases h
  | cons a kvs ih =>
    rw [List.map_cons, List.nodup_cons] at nd
    unfold valV
    by_cases e : a.1 = k
    · rcases List.mem_cons.mp h with q | q
      · rw [← q]; simp
      · exact absurd (List.mem_map.mpr ⟨_, q, rfl⟩) (by rw [← e]; exact nd.1)
    · rcases List.mem_cons.mp h with q | q
      · rw [← q] at e; exact absurd rfl e
      · have := ih nd.2 q
        unfold valV at this
        simpa [List.find?_cons, e] using this
theorem valV_no {α : Type} [DecidableEq α] {kvs : List (α × V)} {k : α} (h : k ∉ kvs.map (·.1)) : valV kvs k = none := by
  unfold valV
  rw [Option.map_eq_none_iff, List.find?_eq_none]
  intro x hx q
  exact h (List.mem_map.mpr ⟨x, hx, by simpa using q⟩)
theorem dkF_val {zs : List Str} (nd : zs.Nodup) (g : Str → Int) {z : Str} (h : z ∈ zs) : valV (dkF zs g) (.inr z) = some (.int (g z)) :=
  valV_of (dkF_nodup nd g) (List.mem_map.mpr ⟨z, h, rfl⟩)
theorem dtF_val {ps : List ((Str × Str) × Int)} (nd : (ps.map Prod.fst).Nodup) {x y : Str} {p : Int} (h : ((x, y), p) ∈ ps) : valV (dtF ps) [.inr x, .inr y] = some (.int p) :=
  valV_of (dtF_nodup nd) (List.mem_map.mpr ⟨_, h, rfl⟩)
theorem dtF_no {ps : List ((Str × Str) × Int)} {x y : Str} (h : (x, y) ∉ ps.map Prod.fst) : valV (dtF ps) [.inr x, .inr y] = none := by
  refine valV_no fun q => h ?_
  unfold dtF at q
  rw [List.map_map] at q
  obtain ⟨a, ha, e⟩ := List.mem_map.mp q
  have e' : ([Sum.inr a.1.1, Sum.inr a.1.2] : List Key) = [.inr x, .inr y] := e
  injection e' with e1 e2
  injection e2 with e2 _
  exact List.mem_map.mpr ⟨a, ha, Prod.ext (Sum.inr.inj e1) (Sum.inr.inj e2)⟩
section
variable {P : Program} {w : World} {K : PySem.W.Frag} {mg : Str → Option Value} {base : Heap}
/-! ### is_pair -/
def spIsPair (K : PySem.W.Frag) : Sp := fun vs H Q _ => ∃ t d x y kvs, vs = [.ref t, .ref d] ∧ SqT K H t [.str x, .str y] ∧ H d = some (.dK kvs) ∧ isSign (.str x) = true ∧ isSign (.str y) = true ∧ (∃ v, valV kvs (.inr x) = some v) ∧ (∃ v, valV kvs (.inr y) = some v) ∧ x ≠ y ∧ ∀ H', Same H H' → Q (.bl true) H'
abbrev N_is_pair : List Str := ["value", "signs", "sign"]
theorem sc_is_pair : FnScope N_is_pair ["value", "signs"] (defScope (top 20)) := ⟨rfl, rfl, rfl, by decide +kernel, rfl, by decide +kernel, by decide +kernel⟩
theorem c_is_pair (A : At K mg "is_pair" (top 20)) (B : Blt mg) (c_is_sign : Cal P w K mg base 1 "is_sign" (spIsSign K)) : Cal P w K mg base 2 "is_pair" (spIsPair K) := by
  refine cal_of A sc_is_pair (fun _ _ _ _ _ _ us hl => match us, hl with | [_, _], _ => rfl) (fun vs H Q E h => ?_) (fun f cdv A outer s H vs Q E hr h => ?_)
  · obtain ⟨_, _, _, _, _, rfl, _⟩ := h; rfl
  · obtain ⟨t, d, x, y, kvs, rfl, ht, hd, sx, sy, ⟨v1, g1⟩, ⟨v2, g2⟩, ne, hQ⟩ := h
    refine ⟨_, (pss_cons (ps_if (PW.pt (pw_or (pt_not (pt_val (pe_callB call_isS (by rfl) B.isinstance (by decide +kernel) (pa_cons (pv 0) (pa_cons (pe_bltn (v := .ty "tuple") (by rfl) B.tuple (by decide +kernel) rfl) pa_nil))))) (pw_or (pt_cmpR op_ne (pe_callB call_len_seq (by rfl) B.len (by decide +kernel) (pa_cons (pv 0) pa_nil)) pe_int (nomark _)) (pw_or1 (pt_not (pt_val (pe_callB (cr_all rfl) (by rfl) B.all (by decide +kernel) (pa_cons (pe_lc (own := [("sign", 2)]) (g := gName 2) (tt := tYes) (by rfl) sc_is_pair.nd (pi_tup (pv 0)) (blkOk_by (own := [("sign", 2)]) (N := N_is_pair) (sc := defScope (top 20)) (by decide +kernel)) (fun _ _ _ _ _ => (pg_name (i := 2) sc_is_pair.nd rfl (Or.inl rfl))) (fun _ _ _ _ _ => pts_nil) (fun _ _ _ _ _ => (pe_c c_is_sign hr (by decide) (by rfl) (pa_cons (pv 2) pa_nil)))) pa_nil))))))))
      (pss_one (ps_ret pe_bl))
      pss_nil)
      (pss_one (ps_ret (pe_and (pe_cmp (pc_din (hu_of hr) (pe_ix ix_tup (pv 0) pe_int (fun _ _ => rfl)) (pv 1)) rfl) (pe_and (pe_cmp (pc_din (hu_of hr) (pe_ix ix_tup (pv 0) pe_int (fun _ _ => rfl)) (pv 1)) rfl) (pe_one (pe_cmpR op_ne (pe_ix ix_tup (pv 0) pe_int (fun _ _ => rfl)) (pe_ix ix_tup (pv 0) pe_int (fun _ _ => rfl)) (nomark _)))))))), ?_⟩
    refine ⟨_, rfl, .ref t, "tuple", true, rfl, .ty (tyT ht) (by decide +kernel), _, rfl, iteF ?_⟩
    refine ⟨_, rfl, t, _, rfl, .inr ht, rfl, _, rfl, iteF ?_⟩
    refine ⟨_, rfl, t, rfl, ⟨_, ht⟩, fun D hD => ?_⟩
    refine lc_tplE ht hD (show 2 ≤ 1000000 by decide) (fun _ => true) (fun x => .bl true) (fun x _ => rfl) (fun x _ H2 e2 Q q => q _ (Same.refl _)) (fun v hv _ H2 e2 Q q => ?_) (fun H2 e2 h2 => ?_)
    · have hv' : v = .str x ∨ v = .str y := by simpa using hv
      rcases hv' with rfl | rfl
      · refine ⟨_, rfl, _, rfl, .str (by rw [(show x.length = 1 by simp [isSign] at sx; exact sx.1)]; decide), ?_⟩
        rw [sx]; exact q _ (Same.refl _)
      · refine ⟨_, rfl, _, rfl, .str (by rw [(show y.length = 1 by simp [isSign] at sy; exact sy.1)]; decide), ?_⟩
        rw [sy]; exact q _ (Same.refl _)
    refine ⟨D, [true, true], rfl, .inl (.inl h2), _, rfl, iteF ?_⟩
    have ht2 := Same.seqT e2 ht
    have hd2 := e2 _ _ hd
    refine ⟨_, rfl, t, _, _, _, rfl, rfl, ht2, rfl, _, rfl, d, some v1, rfl, .inl ⟨kvs, .inr x, .inl hd2, rfl, g1.symm⟩, _, rfl, iteT ?_⟩
    refine ⟨_, rfl, t, _, _, _, rfl, rfl, ht2, rfl, _, rfl, d, some v2, rfl, .inl ⟨kvs, .inr y, .inl hd2, rfl, g2.symm⟩, _, rfl, iteT ?_⟩
    refine ⟨_, rfl, t, _, _, _, rfl, rfl, ht2, rfl, _, rfl, t, _, _, _, rfl, rfl, ht2, rfl, rfl, ?_⟩
    have e : (!decide (V.str x = V.str y)) = true := by simp [ne]
    rw [e]
    exact hQ _ e2
/-! ### are_prices -/
def spAreP : Sp := fun vs H Q _ => ∃ a b c zs zs2 g o ps, vs = [.ref a, .ref b, .ref c] ∧ H a = some (.dK (dkF zs g)) ∧ H b = some (.dK (dkF zs2 o)) ∧ H c = some (.dT (dtF ps)) ∧ a ≠ b ∧ PrN zs zs2 g o ps ∧ ∀ H', Same H H' → Q (.bl true) H'
abbrev N_are_prices : List Str := ["put", "out", "swap", "table", "sign", "price", "pair"]
theorem sc_are_prices : FnScope N_are_prices ["put", "out", "swap"] (defScope (top 21)) := ⟨rfl, rfl, rfl, by decide +kernel, rfl, by decide +kernel, by decide +kernel⟩
theorem c_are_prices (A : At K mg "are_prices" (top 21)) (B : Blt mg) (G1 : GlC mg "MAX_PRICE" (.int 9)) (G2 : GlC mg "MAX_SWAP" (.int 18)) (c_is_sign : Cal P w K mg base 1 "is_sign" (spIsSign K)) (c_is_price : Cal P w K mg base 2 "is_price" (spIsPrice K)) (c_is_pair : Cal P w K mg base 2 "is_pair" (spIsPair K)) : Cal P w K mg base 3 "are_prices" spAreP := by
  refine cal_of A sc_are_prices (fun _ _ _ _ _ _ us hl => match us, hl with | [_, _, _], _ => rfl) (fun vs H Q E h => ?_) (fun f cdv A outer s H vs Q E hr h => ?_)
  · obtain ⟨_, _, _, _, _, _, _, _, rfl, _⟩ := h; rfl
  · obtain ⟨a, b, c, zs, zs2, g, o, ps, rfl, ha, hb, hc, nab, N, hQ⟩ := h
    refine ⟨_, (pss_cons (ps_if (PW.pt (pw_or (pt_not (pt_val (pe_callB (cr_all rfl) (by rfl) B.all (by decide +kernel) (pa_cons (pe_lc (own := [("table", 3)]) (g := gName 3) (tt := tYes) (by rfl) sc_are_prices.nd (pi_tup (pe_tup (pa_cons (pv 0) (pa_cons (pv 1) (pa_cons (pv 2) pa_nil))))) (blkOk_by (own := [("table", 3)]) (N := N_are_prices) (sc := defScope (top 21)) (by decide +kernel)) (fun _ _ _ _ _ => (pg_name (i := 3) sc_are_prices.nd rfl (Or.inl rfl))) (fun _ _ _ _ _ => pts_nil) (fun _ _ _ _ _ => (pe_callB (isSK (K := K) rfl) (by rfl) B.isinstance (by decide +kernel) (pa_cons (pv 3) (pa_cons (pe_bltn (v := .ty "dict") (by rfl) B.dict (by decide +kernel) rfl) pa_nil))))) pa_nil)))) (pw_or1 (pt_cmpR op_eq (pe_callB call_lenD (by rfl) B.len (by decide +kernel) (pa_cons (pv 0) pa_nil)) pe_int (nomark _)))))
      (pss_one (ps_ret pe_bl))
      pss_nil)
      (pss_cons (ps_if (PW.pt (pw_or (pt_not (pt_val (pe_callB (cr_all rfl) (by rfl) B.all (by decide +kernel) (pa_cons (pe_lock (pe_lc (own := [("sign", 4)]) (g := gName 4) (tt := tYes) (by rfl) sc_are_prices.nd (pi_keys (pv 0)) (blkOk_by (own := [("sign", 4)]) (N := N_are_prices) (sc := defScope (top 21)) (by decide +kernel)) (fun _ _ _ _ _ => (pg_name (i := 4) sc_are_prices.nd rfl (Or.inl rfl))) (fun _ _ _ _ _ => pts_nil) (fun _ _ _ _ _ => (pe_c c_is_sign hr (by decide) (by rfl) (pa_cons (pv 4) pa_nil))))) pa_nil)))) (pw_or (pt_cmpR op_ne (pe_callB call_lenD (by rfl) B.len (by decide +kernel) (pa_cons (pv 0) pa_nil)) (pe_callB call_lenD (by rfl) B.len (by decide +kernel) (pa_cons (pv 1) pa_nil)) (nomark _)) (pw_or1 (pt_not (pt_val (pe_callB (cr_all rfl) (by rfl) B.all (by decide +kernel) (pa_cons (pe_lock (pe_lc (own := [("sign", 4)]) (g := gName 4) (tt := tYes) (by rfl) sc_are_prices.nd (pi_keys (pv 0)) (blkOk_by (own := [("sign", 4)]) (N := N_are_prices) (sc := defScope (top 21)) (by decide +kernel)) (fun _ _ _ _ _ => (pg_name (i := 4) sc_are_prices.nd rfl (Or.inl rfl))) (fun _ _ _ _ _ => pts_nil) (fun _ _ _ _ _ => (pe_cmp (pc_din (hu_of hr) (pv 4) (pv 1)))))) pa_nil))))))))
        (pss_one (ps_ret pe_bl))
        pss_nil)
      (pss_cons (ps_if (pt_not (pt_val (pe_callB (cr_all rfl) (by rfl) B.all (by decide +kernel) (pa_cons (pe_lc (own := [("price", 5)]) (g := gName 5) (tt := tYes) (by rfl) sc_are_prices.nd (pi_list (pe_op op_cat (pe_listVals rfl (pv 0) (by rfl) B.list) (pe_listVals rfl (pv 1) (by rfl) B.list))) (blkOk_by (own := [("price", 5)]) (N := N_are_prices) (sc := defScope (top 21)) (by decide +kernel)) (fun _ _ _ _ _ => (pg_name (i := 5) sc_are_prices.nd rfl (Or.inl rfl))) (fun _ _ _ _ _ => pts_nil) (fun _ _ _ _ _ => (pe_c c_is_price hr (by decide) (by rfl) (pa_cons (pv 5) (pa_cons (pe_gl (by rfl) G1) pa_nil))))) pa_nil))))
        (pss_one (ps_ret pe_bl))
        pss_nil)
      (pss_one (ps_ret (pe_callB (cr_all rfl) (by rfl) B.all (by decide +kernel) (pa_cons (pe_lock (pe_lc (own := [("pair", 6), ("price", 5)]) (tt := tYes) (by rfl) sc_are_prices.nd (pi_itemsT (pv 2)) (blkOk_by (own := [("pair", 6), ("price", 5)]) (N := N_are_prices) (sc := defScope (top 21)) (by decide +kernel)) (fun _ _ _ _ _ => (pg_tupK (K := K) (n := 2) rfl rfl (pgs_cons (pg_name (i := 6) sc_are_prices.nd rfl (Or.inl rfl)) (pgs_cons (pg_name (i := 5) sc_are_prices.nd rfl (Or.inl rfl)) pgs_nil)))) (fun _ _ _ _ _ => pts_nil) (fun _ _ _ _ _ => pe_and (pe_c c_is_pair hr (by decide) (by rfl) (pa_cons (pv 6) (pa_cons (pv 0) pa_nil))) (pe_one (pe_c c_is_price hr (by decide) (by rfl) (pa_cons (pv 5) (pa_cons (pe_gl (by rfl) G2) pa_nil))))))) pa_nil))))))), ?_⟩
    have lz : (dkF zs g).length = zs.length := by simp [dkF]
    have lz2 : (dkF zs2 o).length = zs.length := by simp [dkF, N.pm.length_eq]
    -- all are dicts
    refine ⟨_, rfl, _, rfl, _, rfl, (show 3 ≤ sizeLine by decide), fun p hp => ⟨p, rfl, ⟨_, .inl (.inl upd_same)⟩, fun D hD => ?_⟩⟩
    have e1 : Same H (upd H p (.tup [.ref a, .ref b, .ref c])) := same_new hp
    refine lc_tplE (.inl (.inl upd_same)) hD (show 3 ≤ 1000000 by decide) (fun _ => true) (fun x => .bl true) (fun x _ => rfl) (fun x _ H2 e2 Q q => q _ (Same.refl _)) (fun x hx _ H2 e2 Q q => ?_) (fun H2 e2 h2 => ?_)
    · refine ⟨_, rfl, x, "dict", true, rfl, ?_, q _ (Same.refl _)⟩
      have ea := e2 _ _ (e1 _ _ ha)
      have eb := e2 _ _ (e1 _ _ hb)
      have ec := e2 _ _ (e1 _ _ hc)
      have hx' : x = .ref a ∨ x = .ref b ∨ x = .ref c := by simpa using hx
      rcases hx' with rfl | rfl | rfl
      · exact .ty (.base (.dK ea)) (by decide +kernel)
      · exact .ty (.base (.dK eb)) (by decide +kernel)
      · exact .ty (.base (.dT ec)) (by decide +kernel)
    refine ⟨D, [true, true, true], rfl, .inl (.inl h2), _, rfl, iteF ?_⟩
    have e2 := e1.trans e2
    refine ⟨_, rfl, a, _, rfl, e2 _ _ ha, rfl, _, rfl, ?_⟩
    rw [show decide (V.int ((dkF zs g).length : Nat) = V.int 0) = false from decide_eq_false fun z => by have := N.pos; injection z with z; omega]
    refine iteF ?_
    have ks : ∀ x ∈ (dkF zs g).map (fun kv => kV kv.1), ∃ z ∈ zs, x = .str z := fun x hx => by
      unfold dkF at hx
      rw [List.map_map] at hx
      obtain ⟨z, hz, rfl⟩ := List.mem_map.mp hx
      exact ⟨z, hz, rfl⟩
    have kl : (dkF zs g).length ≤ 1000000 := by have := N.le; omega
    have bs : ((((dkF zs g).map fun kv => kV kv.1).filter fun _ => true).map fun _ => V.bl true) = (List.replicate zs.length true).map V.bl := by
      unfold dkF
      rw [filter_all, List.map_map, List.map_map, List.map_replicate]
      exact List.map_const' ..
    have ball : ∀ n, (List.replicate n true).all id = true := fun n => by simp
    -- all keys are signs
    refine ⟨a, _, e2 _ _ ha, trivial, fun od => ⟨_, rfl, a, od, rfl, .inl ⟨_, upd_same, fun D2 hD2 => ?_⟩⟩⟩
    refine lc_keysL (e2 _ _ ha) hD2 kl (fun _ => true) (fun x => .bl true) (fun x _ => rfl) (fun x _ H3 _ _ Q q => q) (fun x hx _ H3 f3 _ Q q => ?_) (fun H3 f3 e3 h3 => ⟨f3, ?_⟩)
    · obtain ⟨z, hz, rfl⟩ := ks x hx
      refine ⟨_, rfl, _, rfl, .str (by rw [len_one (N.sg z hz)]; decide), ?_⟩
      rw [isSign_one (N.sg z hz)]
      exact q
    generalize upd H3 a (.dK (dkF zs g)) = H3' at *
    rw [bs] at h3
    refine ⟨D2, _, rfl, .inl (.inl h3), _, rfl, ?_⟩
    rw [ball]
    refine iteF ?_
    have e3 := e2.trans e3
    refine ⟨_, rfl, a, _, rfl, e3 _ _ ha, _, rfl, b, _, rfl, e3 _ _ hb, rfl, _, rfl, ?_⟩
    rw [lz, lz2, show (!decide (V.int (zs.length : Nat) = V.int (zs.length : Nat))) = false by simp]
    refine iteF ?_
    -- all keys in out
    refine ⟨a, _, e3 _ _ ha, trivial, fun od => ⟨_, rfl, a, od, rfl, .inl ⟨_, upd_same, fun D3 hD3 => ?_⟩⟩⟩
    refine lc_keysL (e3 _ _ ha) hD3 kl (fun _ => true) (fun x => .bl true) (fun x _ => rfl) (fun x _ H3 _ _ Q q => q) (fun x hx _ H3 f3 k3 Q q => ?_) (fun H4 f4 e4 h4 => ⟨f4, ?_⟩)
    · obtain ⟨z, hz, rfl⟩ := ks x hx
      refine ⟨_, rfl, _, rfl, b, some (.int (o z)), rfl, .inl ⟨_, .inr z, .inl (k3 b _ nab.symm (e3 _ _ hb)), rfl, ?_⟩, q⟩
      exact (dkF_val (N.pm.nodup_iff.mpr N.nd) o (N.pm.mem_iff.mpr hz)).symm
    generalize upd H4 a (.dK (dkF zs g)) = H4' at *
    rw [bs] at h4
    refine ⟨D3, _, rfl, .inl (.inl h4), _, rfl, ?_⟩
    rw [ball]
    refine iteF ?_
    have e4 := e3.trans e4
    -- prices
    refine ⟨_, rfl, a, _, rfl, e4 _ _ ha, fun p1 hp1 => ?_⟩
    have e5 := e4.trans (same_new (o := .lst ((dkF zs g).map (·.2))) hp1)
    refine ⟨_, rfl, b, _, rfl, e5 _ _ hb, fun p2 hp2 => ⟨p1, p2, (dkF zs g).map (·.2), (dkF zs2 o).map (·.2), rfl, rfl, ?_, upd_same, ?_, fun p3 hp3 => ?_⟩⟩
    · rw [upd_ne (ne_of_none upd_same hp2), upd_same]
    · have := N.le
      have : 1000 ≤ sizeLine := by decide
      simp only [List.length_map, lz, lz2]
      omega
    have e6 := e5.trans (same_new (o := .lst ((dkF zs2 o).map (·.2))) hp2)
    have e7 := e6.trans (same_new (o := .lst ((dkF zs g).map (·.2) ++ (dkF zs2 o).map (·.2))) hp3)
    refine ⟨p3, rfl, ⟨_, .inl (.inl upd_same)⟩, fun D4 hD4 => ?_⟩
    refine lc_lstE (.inl (.inl upd_same)) hD4 (by have := N.le; simp only [List.length_append, List.length_map, lz, lz2]; omega) (fun _ => true) (fun x => .bl true) (fun x _ => rfl) (fun x _ H2 e2 Q q => q _ (Same.refl _)) (fun x hx _ H2 e2 Q q => ?_) (fun H8 e8 h8 => ?_)
    · have hx' : ∃ n, x = .int n ∧ 1 ≤ n ∧ n ≤ 9 := by
        rcases List.mem_append.mp hx with hx | hx
        · unfold dkF at hx
          rw [List.map_map] at hx
          obtain ⟨z, hz, rfl⟩ := List.mem_map.mp hx
          exact ⟨_, rfl, N.pg z hz⟩
        · unfold dkF at hx
          rw [List.map_map] at hx
          obtain ⟨z, hz, rfl⟩ := List.mem_map.mp hx
          exact ⟨_, rfl, N.po z (N.pm.mem_iff.mp hz)⟩
      obtain ⟨n, rfl, n1, n2⟩ := hx'
      refine ⟨_, rfl, .int n, 9, rfl, .inl ⟨n, rfl, ?_⟩⟩
      rw [isInt_of (by omega) (by omega), decide_eq_true n1, decide_eq_true n2]
      exact q _ (Same.refl _)
    have b8 : (((((dkF zs g).map (·.2) ++ (dkF zs2 o).map (·.2)).filter fun _ => true).map fun _ => V.bl true)) = (List.replicate (zs.length + zs.length) true).map V.bl := by
      rw [filter_all]
      simp only [List.map_const', List.length_append, List.length_map, lz, lz2, List.map_replicate]
    rw [b8] at h8
    refine ⟨D4, _, rfl, .inl (.inl h8), _, rfl, ?_⟩
    rw [ball]
    refine iteF ?_
    have e8 := e7.trans e8
    -- swaps
    refine ⟨c, _, e8 _ _ hc, trivial, fun od => ⟨_, rfl, c, od, _, rfl, upd_same, fun D5 hD5 => ?_⟩⟩
    have nDc : D5 ≠ c := fun z => by rw [z, upd_same] at hD5; cases hD5
    have hD5' : H8 D5 = none := by rw [upd_ne nDc] at hD5; exact hD5
    have nca : c ≠ a := fun z => by rw [z, ha] at hc; cases hc
    refine lc_it walk_itemsT (fun i H' => Same H8 (upd H' c (.dT (dtF ps))) ∧ H' c = some (.frz od (.dT (dtF ps))) ∧ H' D5 = some (.lst ((List.replicate i true).map V.bl))) ⟨?_, by rw [upd_ne nDc.symm, upd_same], upd_same⟩ (fun i H' _ e => e.2.1) (fun i x H1 H2 hi e y => ?_) (fun H9 e => ?_)
    · exact (same_lock (e8 _ _ hc) hD5).1
    · obtain ⟨e9, f9, h9⟩ := e
      obtain ⟨T, k, v, q, hkv, rfl, hT, hq, rfl⟩ := y
      have nT : T ≠ c := fun z => by rw [z, f9] at hT; cases hT
      have nTD : T ≠ D5 := fun z => by rw [z, h9] at hT; cases hT
      unfold dtF at hkv
      rw [List.getElem?_map] at hkv
      obtain ⟨⟨⟨z1, z2⟩, n⟩, hx, ekv⟩ := Option.map_eq_some_iff.mp hkv
      cases ekv
      obtain ⟨i1, i2, ne, n1, n2⟩ := N.sp _ (List.mem_of_getElem? hx)
      refine ⟨T, [.ref q, .int n], rfl, .inl (.inl upd_same), rfl, _, _, rfl, _, _, rfl, rfl, rfl, yes_q (iteT ?_)⟩
      have hq2 : upd H1 T (.tup [.ref q, .int n]) q = some (.tup [.str z1, .str z2]) := by rw [upd_ne (ne_of_none hq hT)]; exact hq
      have ha2 : upd H1 T (.tup [.ref q, .int n]) a = some (.dK (dkF zs g)) := by
        have z := e9 _ _ (e8 _ _ ha)
        rw [upd_ne nca.symm] at z
        rw [upd_ne (ne_of_none z hT)]
        exact z
      refine ⟨_, rfl, _, rfl, q, a, z1, z2, _, rfl, .inl (.inl hq2), ha2, isSign_one (N.sg _ i1), isSign_one (N.sg _ i2), ⟨_, dkF_val N.nd g i1⟩, ⟨_, dkF_val N.nd g i2⟩, ne, fun H3 e3 => ⟨_, rfl, iteT ?_⟩⟩
      refine ⟨_, rfl, .int n, 18, rfl, .inl ⟨n, rfl, ?_⟩⟩
      rw [isInt_of (by omega) (by omega), decide_eq_true n1, decide_eq_true n2]
      have D3 : H3 D5 = some (.lst ((List.replicate i true).map V.bl)) := e3 _ _ (by rw [upd_ne nTD.symm]; exact h9)
      refine ⟨_, D3, ?_, ?_, ?_, ?_⟩
      · have : 1000 ≤ sizeLine := by decide
        have := N.sl
        have hi' : i < (dtF ps).length := hi
        simp [dtF] at hi' ⊢
        omega
      · intro y u hu
        have hu2 := e9 _ _ hu
        by_cases yc : y = c
        · subst yc; rw [upd_same] at hu2 ⊢; exact hu2
        · rw [upd_ne yc] at hu2 ⊢
          have yD : y ≠ D5 := fun z => by rw [z, hD5'] at hu; cases hu
          rw [upd_ne yD]
          exact e3 _ _ (by rw [upd_ne (ne_of_none hu2 hT)]; exact hu2)
      · rw [upd_ne nDc.symm]
        exact e3 _ _ (by rw [upd_ne nT.symm]; exact f9)
      · rw [upd_same, List.replicate_succ', List.map_append]
        rfl
    · obtain ⟨e9, f9, h9⟩ := e
      refine ⟨f9, D5, _, rfl, .inl (.inl (show upd H9 c (.dT (dtF ps)) D5 = some (.lst ((List.replicate (dtF ps).length true).map V.bl)) by rw [upd_ne nDc]; exact h9)), ?_⟩
      rw [ball]
      exact hQ _ (e8.trans e9)
end
end MN
/-! dict comprehensions over signs and pairs; Prices.__init__ -/
namespace MN
open PySem PySem.Spec PyProof.Rows L2
theorem putK_fresh {α : Type} [DecidableEq α] {kvs : List (α × V)} {k : α} {v : V} (h : k ∉ kvs.map (·.1)) : putK kvs k v = kvs ++ [(k, v)] := by
  unfold putK
  rw [if_neg]
  intro q
  obtain ⟨kv, h1, h2⟩ := List.any_eq_true.mp q
  exact h (List.mem_map.mpr ⟨kv, h1, of_decide_eq_true h2⟩)
theorem take_nodup {α : Type} {l : List α} (nd : l.Nodup) {i : Nat} {a : α} (h : l[i]? = some a) : a ∉ l.take i := fun q => by
  obtain ⟨j, hj⟩ := List.mem_iff_getElem?.mp q
  rw [List.getElem?_take] at hj
  split at hj
  · rename_i hji
    have h1 := (List.getElem?_eq_some_iff.mp hj)
    have h2 := (List.getElem?_eq_some_iff.mp h)
    have := (List.getElem_inj (h₀ := h1.1) (h₁ := h2.1) nd).mp (h1.2.trans h2.2.symm)
    omega
  · cases hj
theorem dkF_put {zs : List Str} (g : Str → Int) (nd : zs.Nodup) {i : Nat} {z : Str} (h : zs[i]? = some z) : putK (dkF (zs.take i) g) (.inr z) (.int (g z)) = dkF (zs.take (i + 1)) g := by
  rw [putK_fresh]
  · rw [List.take_add_one, h]
    simp [dkF]
  · rw [dkF_keys]
    intro q
    obtain ⟨y, hy, e⟩ := List.mem_map.mp q
    cases e
    exact take_nodup nd h hy
theorem dtF_put {ps : List ((Str × Str) × Int)} (nd : (ps.map Prod.fst).Nodup) {i : Nat} {x y : Str} {n : Int} (h : ps[i]? = some ((x, y), n)) : putK (dtF (ps.take i)) [.inr x, .inr y] (.int n) = dtF (ps.take (i + 1)) := by
  rw [putK_fresh]
  · rw [List.take_add_one, h]
    simp [dtF]
  · intro q
    unfold dtF at q
    rw [List.map_map] at q
    obtain ⟨a, ha, e⟩ := List.mem_map.mp q
    have e' : ([Sum.inr a.1.1, Sum.inr a.1.2] : List Key) = [.inr x, .inr y] := e
    injection e' with e1 e2
    injection e2 with e2 _
    have ea : a.1 = (x, y) := Prod.ext (Sum.inr.inj e1) (Sum.inr.inj e2)
    have hi : (ps.map Prod.fst)[i]? = some (x, y) := by rw [List.getElem?_map, h]; rfl
    refine take_nodup nd hi ?_
    rw [← ea, ← List.map_take]
    exact List.mem_map.mpr ⟨a, ha, rfl⟩
theorem perm_map_ex {α β : Type} {f : α → β} : ∀ {l : List β} {F : List α}, l.Perm (F.map f) → ∃ F' : List α, F'.Perm F ∧ l = F'.map f
  | [], F, h => by
    have := h.length_eq
    cases F with
    | nil => exact ⟨[], .refl _, rfl⟩
    | cons => simp at this
  | a :: l, F, h => by
    obtain ⟨x, hx, rfl⟩ := List.mem_map.mp (h.mem_iff.mp List.mem_cons_self)
    obtain ⟨s, t, rfl⟩ := List.append_of_mem hx
    have p : (s ++ x :: t).Perm (x :: (s ++ t)) := List.perm_middle
    have h2 := h.trans (p.map f)
    rw [List.map_cons] at h2
    obtain ⟨F', q, e⟩ := perm_map_ex (h2.cons_inv)
    exact ⟨x :: F', (q.cons x).trans p.symm, by rw [e]; rfl⟩
section
variable {K : PySem.W.Frag} {a D : Addr} {H1 : Hp} {σ : L2.St} {vs : List Nat} {tk tv : TE} {j : Nat} {Qd : Hp → Prop}
def DcGoal (o0 : HO) (J : It) (g : TG) (tt : TT) (tk tv : TE) (vs : List Nat) (σ : L2.St) (H1 : Hp) (D : Addr) (Qd : Hp → Prop) : Prop := ∃ W : Nat → Nat → Hp → Prop, (∃ m, W 0 m (upd H1 D o0)) ∧ ∀ i m H, W i m H →
  (J.stop i H ∧ Qd H) ∨ (J.go i H ∧ ∃ Nx : Hp → Prop, (∀ H', Nx H' → ∃ m', m' < m ∧ W (i + 1) m' H') ∧ ∀ x H', J.yld i H x H' → g x (wipe σ vs) H' fun σ2 H2 => wipe σ2 vs = wipe σ vs ∧ tt σ2 H2 fun b H3 =>
    if b = true then tk σ2 H3 fun y H4 => tv σ2 H4 fun z H5 => ∃ H6, DPut H5 D y z H6 ∧ Nx H6 else Nx H3)
/-- {y: g(y) for y in signs} -/
theorem dp_signs {ys : List Str} (hs : SqL K H1 a (ys.map V.str)) (nd : ys.Nodup) (hz : ys.length ≤ 1000) (hD : H1 D = none) (g : Str → Int) (hw : ∀ y ∈ ys, wipe ((wipe σ vs).set j (some (.str y))) vs = wipe σ vs)
    (hk : ∀ y ∈ ys, ∀ H2, Same H1 H2 → ∀ Q : VK, Q (.str y) H2 → tk ((wipe σ vs).set j (some (.str y))) H2 Q) (hv : ∀ y ∈ ys, ∀ H2, Same H1 H2 → ∀ Q : VK, (∀ H3, Same H2 H3 → Q (.int (g y)) H3) → tv ((wipe σ vs).set j (some (.str y))) H2 Q)
    (hd : ∀ H', Same H1 H' → H' D = some (.dK (dkF ys g)) → Qd H') : DcGoal (.dK []) (Itl K a) (gName j) tYes tk tv vs σ H1 D Qd := by
  refine dp_it walk_list (fun i H' => Same H1 H' ∧ H' D = some (.dK (dkF (ys.take i) g))) ⟨same_new hD, by rw [List.take_zero]; exact upd_same⟩ (fun i H' _ e => Same.seq e.1 hs) (fun i x H H' hi e y => ?_) (fun H' e => ?_)
  · obtain ⟨rfl, hx⟩ := y
    obtain ⟨e1, e2⟩ := e
    rw [List.getElem?_map] at hx
    obtain ⟨y, hy, rfl⟩ := Option.map_eq_some_iff.mp hx
    have hm := List.mem_of_getElem? hy
    refine ⟨hw y hm, yes_q (iteT (hk y hm _ e1 _ (hv y hm _ e1 _ fun H3 e3 => ⟨_, .inl ⟨_, .inr y, e3 _ _ e2, rfl, ?_, rfl⟩, fun b o q => ?_, ?_⟩)))⟩
    · have : 100000 < sizeLine := by decide
      simp [dkF]
      omega
    · rw [upd_ne (ne_of_none q hD)]; exact e3 _ _ (e1 _ _ q)
    · rw [upd_same, dkF_put g nd hy]
  · obtain ⟨e1, e2⟩ := e
    refine hd H' e1 ?_
    rw [List.length_map, List.take_length] at e2
    exact e2
/-- {pair: price for pair in a list of pairs} -/
theorem dp_pairs {F : List (((Str × Str) × Int) × Addr)} (hs : SqL K H1 a (F.map fun e => V.ref e.2)) (nd : ((F.map Prod.fst).map Prod.fst).Nodup) (hz : F.length ≤ 1000) (hF : ∀ e ∈ F, H1 e.2 = some (.tup [.str e.1.1.1, .str e.1.1.2])) (hD : H1 D = none) (hw : ∀ e ∈ F, wipe ((wipe σ vs).set j (some (.ref e.2))) vs = wipe σ vs)
    (hk : ∀ e ∈ F, ∀ H2, Same H1 H2 → ∀ Q : VK, Q (.ref e.2) H2 → tk ((wipe σ vs).set j (some (.ref e.2))) H2 Q) (hv : ∀ e ∈ F, ∀ H2, Same H1 H2 → ∀ Q : VK, (∀ H3, Same H2 H3 → Q (.int e.1.2) H3) → tv ((wipe σ vs).set j (some (.ref e.2))) H2 Q)
    (hd : ∀ H', Same H1 H' → H' D = some (.dT (dtF (F.map Prod.fst))) → Qd H') : DcGoal (.dT []) (Itl K a) (gName j) tYes tk tv vs σ H1 D Qd := by
  refine dp_it walk_list (fun i H' => Same H1 H' ∧ H' D = some (.dT (dtF ((F.map Prod.fst).take i)))) ⟨same_new hD, by rw [List.take_zero]; exact upd_same⟩ (fun i H' _ e => Same.seq e.1 hs) (fun i x H H' hi e y => ?_) (fun H' e => ?_)
  · obtain ⟨rfl, hx⟩ := y
    obtain ⟨e1, e2⟩ := e
    rw [List.getElem?_map] at hx
    obtain ⟨f, hf, rfl⟩ := Option.map_eq_some_iff.mp hx
    have hm := List.mem_of_getElem? hf
    have hi2 : (F.map Prod.fst)[i]? = some ((f.1.1.1, f.1.1.2), f.1.2) := by rw [List.getElem?_map, hf]; rfl
    refine ⟨hw f hm, yes_q (iteT (hk f hm _ e1 _ (hv f hm _ e1 _ fun H3 e3 => ⟨_, .inr ⟨_, [.inr f.1.1.1, .inr f.1.1.2], f.2, e3 _ _ e2, rfl, e3 _ _ (e1 _ _ (hF f hm)), ?_, rfl⟩, fun b o q => ?_, ?_⟩)))⟩
    · have : 100000 < sizeLine := by decide
      simp [dtF]
      omega
    · rw [upd_ne (ne_of_none q hD)]; exact e3 _ _ (e1 _ _ q)
    · rw [upd_same, dtF_put nd hi2]
  · obtain ⟨e1, e2⟩ := e
    refine hd H' e1 ?_
    rw [List.length_map, ← List.length_map (f := Prod.fst), List.take_length] at e2
    exact e2
end
/-- an instance with put, out and swap prices (Prices, Closed) -/
def PrAt (C : Addr) (H : Hp) (x dx : Addr) (ys ys2 : List Str) (g o : Str → Int) (qs : List ((Str × Str) × Int)) : Prop :=
  ∃ A B S ws, Sl2 H x C dx ws ∧ ws[1]? = some (some (.ref A)) ∧ ws[0]? = some (some (.ref B)) ∧ ws[2]? = some (some (.ref S)) ∧ A ≠ B ∧ H A = some (.dK (dkF ys g)) ∧ H B = some (.dK (dkF ys2 o)) ∧ H S = some (.dT (dtF qs))
theorem PrAt.same {C : Addr} {H H' : Hp} {x dx : Addr} {ys ys2 : List Str} {g o : Str → Int} {qs : List ((Str × Str) × Int)} (h : PrAt C H x dx ys ys2 g o qs) (e : Same H H') : PrAt C H' x dx ys ys2 g o qs := by
  obtain ⟨A, B, S, ws, h1, h2, h3, h4, h5, h6, h7, h8⟩ := h
  exact ⟨A, B, S, ws, ⟨e _ _ h1.1, e _ _ h1.2⟩, h2, h3, h4, h5, e _ _ h6, e _ _ h7, e _ _ h8⟩
/-- a class with these slots -/
structure SlotC (K : PySem.W.Frag) (C : Addr) : Prop where
  sc : SlX.SCls K C
  s0 : ∃ p, SlX.Slot1 K C "own_out" p 0
  s1 : ∃ p, SlX.Slot1 K C "own_put" p 1
  s2 : ∃ p, SlX.Slot1 K C "own_swap" p 2
theorem Sl2.slt {H : Hp} {a C dx : Addr} {ws : List (Option V)} (h : Sl2 H a C dx ws) : SlX.Slt H a C dx ws := .inr h
theorem PrN.perm {zs zs2 ys ys2 : List Str} {g o : Str → Int} {ps qs : List ((Str × Str) × Int)} (N : PrN zs zs2 g o ps) (h1 : ys.Perm zs) (h2 : ys2.Perm zs) (h3 : qs.Perm ps) : PrN ys ys2 g o qs := by
  refine ⟨fun z h => N.sg z (h1.mem_iff.mp h), h1.nodup_iff.mpr N.nd, by rw [h1.length_eq]; exact N.pos, by rw [h1.length_eq]; exact N.le, h2.trans h1.symm, fun z h => N.pg z (h1.mem_iff.mp h), fun z h => N.po z (h1.mem_iff.mp h), (h3.map _).nodup_iff.mpr N.sn, fun x h => ?_, by rw [h3.length_eq]; exact N.sl⟩
  obtain ⟨a, b, c⟩ := N.sp x (h3.mem_iff.mp h)
  exact ⟨h1.mem_iff.mpr a, h1.mem_iff.mpr b, c⟩
/-- the pairs of a dict and their tuples' places -/
theorem keys_zip {H : Hp} {ps : List ((Str × Str) × Int)} {bs : List Addr} (h : IsKeys H (dtF ps) bs) : ∃ F : List (((Str × Str) × Int) × Addr), F.map Prod.fst = ps ∧ F.map Prod.snd = bs ∧ ∀ e ∈ F, H e.2 = some (.tup [.str e.1.1.1, .str e.1.1.2]) := by
  induction ps generalizing bs with
  | nil => cases h; exact ⟨[], rfl, rfl, fun _ h => nomatch h⟩
  | cons p ps ih =>
    cases h with
    | cons h1 h2 =>
      rename_i b bs
      obtain ⟨F, e1, e2, e3⟩ := ih h2
      refine ⟨(p, b) :: F, by rw [List.map_cons, e1], by rw [List.map_cons, e2], fun e he => ?_⟩
      rcases List.mem_cons.mp he with rfl | he
      · exact h1
      · exact e3 e he
section
variable {P : Program} {w : World} {K : PySem.W.Frag} {mg : Str → Option Value} {base : Heap}
def spPInit (C : Addr) : Sp := fun vs H Q _ => ∃ x dx a b c zs zs2 g o ps, vs = [.ref x, .ref a, .ref b, .ref c] ∧ H x = some (.ins C dx []) ∧ H dx = some (.own x) ∧ dx ≠ x ∧
  H a = some (.dK (dkF zs g)) ∧ H b = some (.dK (dkF zs2 o)) ∧ H c = some (.dT (dtF ps)) ∧ a ≠ b ∧ PrN zs zs2 g o ps ∧
  ∀ H' ys ys2 qs, Kp x dx H H' → PrAt C H' x dx ys ys2 g o qs → PrN ys ys2 g o qs → ys.Perm zs → sortedS ys = true → qs.Perm ps → Q .non H'
abbrev N_pinit : List Str := ["self", "put", "out", "swap", "sign", "pair"]
theorem sc_pinit : FnScope N_pinit ["self", "put", "out", "swap"] (defScope (inClass (top 25) 1)) := ⟨rfl, rfl, rfl, by decide +kernel, rfl, by decide +kernel, by decide +kernel⟩
theorem f_pinit {C f : Addr} {fd : FuncData} (PC : SlotC K C) (F : FunAt K "__init__" "Prices.__init__" (inClass (top 25) 1) [] f fd) (B : Blt mg) (c_are_prices : Cal P w K mg base 3 "are_prices" spAreP) : FnOk P w K mg base CX0 4 f fd ["self", "put", "out", "swap"] (spPInit C) := by
  refine fnok_of F sc_pinit (fun vs H Q E h => ?_) (fun cdv A outer s H vs Q E hr h => ?_)
  · obtain ⟨_, _, _, _, _, _, _, _, _, _, rfl, _⟩ := h; rfl
  · obtain ⟨x, dx, a, b, c, zs, zs2, g, o, ps, rfl, hx, hdx, dxx, ha, hb, hc, nab, N, hQ⟩ := h
    obtain ⟨p0, s0⟩ := PC.s0
    obtain ⟨p1, s1⟩ := PC.s1
    obtain ⟨p2, s2⟩ := PC.s2
    refine ⟨_, pss_cons (ps_if (pt_not (pt_val (pe_c c_are_prices hr (by decide) (by rfl) (pa_cons (pv 1) (pa_cons (pv 2) (pa_cons (pv 3) pa_nil)))))) (pss_one ps_never) pss_nil)
      (pss_cons (SlX.ps_sl (pv 0) (pe_dp1 (own := [("sign", 4)]) (o0 := .dK []) (g := gName 4) (tt := tYes) rfl (hu_of hr) sc_pinit.nd (pi_list (pe_callB cr_sortedS (by rfl) B.sorted (by decide +kernel) (pa_cons (pe_callTy (call_list_dK rfl) (by rfl) B.list (by decide +kernel) (pa_cons (pv 1) pa_nil)) pa_nil)))
        (blkOk_by (own := [("sign", 4)]) (N := N_pinit) (sc := defScope (inClass (top 25) 1)) (by decide +kernel)) (fun _ _ _ _ _ => (pg_name (i := 4) sc_pinit.nd rfl (Or.inl rfl))) (fun _ _ _ _ _ => pts_nil) (fun _ _ _ _ _ => pv 4) (fun _ _ _ _ _ => pe_dget (hu_of hr) (pv 1) (pv 4) (fun _ _ => rfl)) (.inl rfl)))
      (pss_cons (SlX.ps_sl (pv 0) (pe_dp1 (own := [("sign", 4)]) (o0 := .dK []) (g := gName 4) (tt := tYes) rfl (hu_of hr) sc_pinit.nd (pi_list (pe_callB cr_sortedS (by rfl) B.sorted (by decide +kernel) (pa_cons (pe_callTy (call_list_dK rfl) (by rfl) B.list (by decide +kernel) (pa_cons (pv 1) pa_nil)) pa_nil)))
        (blkOk_by (own := [("sign", 4)]) (N := N_pinit) (sc := defScope (inClass (top 25) 1)) (by decide +kernel)) (fun _ _ _ _ _ => (pg_name (i := 4) sc_pinit.nd rfl (Or.inl rfl))) (fun _ _ _ _ _ => pts_nil) (fun _ _ _ _ _ => pv 4) (fun _ _ _ _ _ => pe_dget (hu_of hr) (pv 2) (pv 4) (fun _ _ => rfl)) (.inl rfl)))
      (pss_one (SlX.ps_sl (pv 0) (pe_dp1 (own := [("pair", 5)]) (o0 := .dT []) (g := gName 5) (tt := tYes) rfl (hu_of hr) sc_pinit.nd (pi_list (pe_callB (cr_sortedD hr.units) (by rfl) B.sorted (by decide +kernel) (pa_cons (pe_callTy (call_list_dT rfl) (by rfl) B.list (by decide +kernel) (pa_cons (pv 3) pa_nil)) pa_nil)))
        (blkOk_by (own := [("pair", 5)]) (N := N_pinit) (sc := defScope (inClass (top 25) 1)) (by decide +kernel)) (fun _ _ _ _ _ => (pg_name (i := 5) sc_pinit.nd rfl (Or.inl rfl))) (fun _ _ _ _ _ => pts_nil) (fun _ _ _ _ _ => pv 5) (fun _ _ _ _ _ => pe_dget (hu_of hr) (pv 3) (pv 5) (fun _ _ => rfl)) (.inr rfl)))))), ?_⟩
    refine ⟨_, rfl, _, rfl, _, rfl, a, b, c, zs, zs2, g, o, ps, rfl, ha, hb, hc, nab, N, fun H1 e1 => ⟨_, rfl, iteF ?_⟩⟩
    have keyz : ∀ f : Str → Int, (dkF zs f).map (fun kv => kV kv.1) = zs.map V.str := fun f => by unfold dkF; rw [List.map_map]; rfl
    have l64 : zs.length < 64 := by have := N.le; omega
    have apart : ∀ {t : Addr} {kvs : List (Key × V)}, H t = some (.dK kvs) → t ≠ x ∧ t ≠ dx := fun h => ⟨fun z => (by rw [z, hx] at h; cases h), fun z => (by rw [z, hdx] at h; cases h)⟩
    have cx : c ≠ x := fun z => by rw [z, hx] at hc; cases hc
    have cd : c ≠ dx := fun z => by rw [z, hdx] at hc; cases hc
    obtain ⟨ax, ad⟩ := apart ha
    obtain ⟨bx, bd⟩ := apart hb
    have k1 : Kp x dx H H1 := fun b o _ _ q => e1 _ _ q
    -- own_put
    refine ⟨_, rfl, a, _, rfl, k1 _ _ ax ad ha, fun q hq => ⟨q, zs, rfl, .inl (.inl (by rw [keyz]; exact upd_same)), l64, fun ys p hys hso hp => ?_⟩⟩
    refine ⟨p, rfl, ⟨_, .inl (.inl upd_same)⟩, fun D hD => ?_⟩
    have e2 : Same H1 (upd (upd H1 q (.lst ((dkF zs g).map fun kv => kV kv.1))) p (.lst (ys.map V.str))) := (same_new hq).trans (same_new hp)
    refine dp_signs (.inl (.inl upd_same)) (hys.nodup_iff.mpr N.nd) (by have := hys.length_eq; omega) hD g (fun _ _ => rfl) (fun y _ H2 _ Q q => ⟨_, rfl, q⟩) (fun y hy H2 e Q q => ⟨_, rfl, _, rfl, a, .int (g y), rfl, .inl ⟨_, .inr y, .inl (e _ _ (e2 _ _ (k1 _ _ ax ad ha))), rfl, (dkF_val N.nd g (hys.mem_iff.mp hy)).symm⟩, q _ (Same.refl _)⟩) (fun H2 e3 hD2 => ?_)
    have e4 := e2.trans e3
    refine ⟨_, rfl, x, C, dx, p1, [], 1, rfl, .inl ⟨e4 _ _ (e1 _ _ hx), rfl⟩, PC.sc, s1, ?_⟩
    have fD : H1 D = none := e2.free hD
    have Dx : D ≠ x := (ne_of_none (e1 _ _ hx) fD).symm
    have Dd : D ≠ dx := (ne_of_none (e1 _ _ hdx) fD).symm
    have k3 : Kp x dx H (SlX.slH H2 x C dx (SlX.putS 1 (.ref D) [])) := (k1.same e4).sl
    have z3 : Sl2 (SlX.slH H2 x C dx (SlX.putS 1 (.ref D) [])) x C dx (SlX.putS 1 (.ref D) []) := slH_sl2 dxx
    have w3 : (SlX.putS 1 (.ref D) [])[1]? = some (some (.ref D)) := SlX.putS_get _ _ _
    have hD3 : SlX.slH H2 x C dx (SlX.putS 1 (.ref D) []) D = some (.dK (dkF ys g)) := by rw [SlX.slH_ne Dx Dd]; exact hD2
    generalize SlX.putS 1 (.ref D) [] = v3 at *
    generalize SlX.slH H2 x C dx v3 = H3 at *
    clear hD hD2 fD hp hq e2 e3 e4 k1 e1
    -- own_out
    refine ⟨_, rfl, a, _, rfl, k3 _ _ ax ad ha, fun q hq => ⟨q, zs, rfl, .inl (.inl (by rw [keyz]; exact upd_same)), l64, fun ys2 p hys2 _ hp => ?_⟩⟩
    refine ⟨p, rfl, ⟨_, .inl (.inl upd_same)⟩, fun D5 hD5 => ?_⟩
    have e2 : Same H3 (upd (upd H3 q (.lst ((dkF zs g).map fun kv => kV kv.1))) p (.lst (ys2.map V.str))) := (same_new hq).trans (same_new hp)
    refine dp_signs (.inl (.inl upd_same)) (hys2.nodup_iff.mpr N.nd) (by have := hys2.length_eq; omega) hD5 o (fun _ _ => rfl) (fun y _ H2 _ Q q => ⟨_, rfl, q⟩) (fun y hy H2 e Q q => ⟨_, rfl, _, rfl, b, .int (o y), rfl, .inl ⟨_, .inr y, .inl (e _ _ (e2 _ _ (k3 _ _ bx bd hb))), rfl, (dkF_val (N.pm.nodup_iff.mpr N.nd) o (N.pm.mem_iff.mpr (hys2.mem_iff.mp hy))).symm⟩, q _ (Same.refl _)⟩) (fun H4 e3 hD6 => ?_)
    have e4 := e2.trans e3
    refine ⟨_, rfl, x, C, dx, p0, v3, 0, rfl, slt_same e4 (.inr z3), PC.sc, s0, ?_⟩
    have fD : H3 D5 = none := e2.free hD5
    have D5x : D5 ≠ x := (ne_of_none z3.1 fD).symm
    have D5d : D5 ≠ dx := (ne_of_none z3.2 fD).symm
    have n5 : D ≠ D5 := ne_of_none hD3 fD
    have k5 : Kp x dx H (SlX.slH H4 x C dx (SlX.putS 0 (.ref D5) v3)) := (k3.same e4).sl
    have z5 : Sl2 (SlX.slH H4 x C dx (SlX.putS 0 (.ref D5) v3)) x C dx (SlX.putS 0 (.ref D5) v3) := slH_sl2 dxx
    have w5 : (SlX.putS 0 (.ref D5) v3)[0]? = some (some (.ref D5)) := SlX.putS_get _ _ _
    have w5' : (SlX.putS 0 (.ref D5) v3)[1]? = some (some (.ref D)) := (SlX.putS_ne (by decide)).mpr w3
    have hD7 : SlX.slH H4 x C dx (SlX.putS 0 (.ref D5) v3) D5 = some (.dK (dkF ys2 o)) := by rw [SlX.slH_ne D5x D5d]; exact hD6
    have hD8 : SlX.slH H4 x C dx (SlX.putS 0 (.ref D5) v3) D = some (.dK (dkF ys g)) := by rw [SlX.slH_ne Dx Dd]; exact e4 _ _ hD3
    generalize SlX.putS 0 (.ref D5) v3 = v5 at *
    generalize SlX.slH H4 x C dx v5 = H5 at *
    clear hD5 hD6 fD hp hq e2 e3 e4 k3 z3 w3 hD3
    -- own_swap
    refine ⟨_, rfl, c, _, rfl, .inl (k5 _ _ cx cd hc), fun q bs hq hbs => ?_⟩
    obtain ⟨F0, f1, f2, f3⟩ := keys_zip hbs
    have up1 := same_new (o := .lst (bs.map V.ref)) hq
    refine ⟨q, F0.map fun e => (V.ref e.2, PyData.tuple [.str e.1.1.1, .str e.1.1.2]), rfl, .inl (.inl ?_), fun y hy => ?_, fun d1 h1 d2 h2 => ?_, .inl fun d hd => ?_, fun y hy => ?_, fun p hp => ?_⟩
    · rw [upd_same, List.map_map, ← f2, List.map_map]; rfl
    · obtain ⟨e, he, rfl⟩ := List.mem_map.mp hy
      exact dpT (zs := [e.1.1.1, e.1.1.2]) (.inl (.inl (up1 _ _ (f3 e he))))
    · rw [List.map_map] at h1 h2
      obtain ⟨e1, _, rfl⟩ := List.mem_map.mp h1
      obtain ⟨e2, _, rfl⟩ := List.mem_map.mp h2
      rfl
    · rw [List.map_map] at hd
      obtain ⟨e1, _, rfl⟩ := List.mem_map.mp hd
      exact ⟨_, _, rfl⟩
    · obtain ⟨e, he, rfl⟩ := List.mem_map.mp hy
      show PyData.depth _ ≤ 8
      simp [PyData.depth, PyData.depthAll]
    obtain ⟨F', pF, eF⟩ := perm_map_ex (List.mergeSort_perm (F0.map fun e => (V.ref e.2, PyData.tuple [.str e.1.1.1, .str e.1.1.2])) (PySem.W.dataLe false Prod.snd))
    rw [eF, List.map_map] at *
    have pq : (F'.map Prod.fst).Perm ps := by rw [← f1]; exact pF.map _
    have up2 := up1.trans (same_new (o := .lst (F'.map (Prod.fst ∘ fun e : ((Str × Str) × Int) × Addr => (V.ref e.2, PyData.tuple [.str e.1.1.1, .str e.1.1.2])))) hp)
    refine ⟨p, rfl, ⟨_, .inl (.inl upd_same)⟩, fun D9 hD9 => ?_⟩
    refine dp_pairs (F := F') (.inl (.inl upd_same)) ((pq.map _).nodup_iff.mpr N.sn) ?_ (fun e he => up2 _ _ (f3 e (pF.mem_iff.mp he))) hD9 (fun _ _ => rfl) (fun y _ H2 _ Q q => ⟨_, rfl, q⟩) (fun y hy H2 e Q q => ⟨_, rfl, _, rfl, c, .int y.1.2, rfl, .inr ⟨_, [.inr y.1.1.1, .inr y.1.1.2], y.2, .inl (e _ _ (up2 _ _ (k5 _ _ cx cd hc))), rfl, e _ _ (up2 _ _ (f3 y (pF.mem_iff.mp hy))), (dtF_val N.sn (pq.mem_iff.mp (List.mem_map.mpr ⟨y, hy, rfl⟩))).symm⟩, q _ (Same.refl _)⟩) (fun H6 e6 hD6 => ?_)
    · have := N.sl
      have := pq.length_eq
      rw [List.length_map] at this
      omega
    have e7 := up2.trans e6
    have z7 := z5
    refine ⟨_, rfl, x, C, dx, p2, v5, 2, rfl, slt_same e7 (.inr z5), PC.sc, s2, ?_⟩
    have fD : H5 D9 = none := up2.free hD9
    have D9x : D9 ≠ x := (ne_of_none z5.1 fD).symm
    have D9d : D9 ≠ dx := (ne_of_none z5.2 fD).symm
    refine hQ _ ys ys2 (F'.map Prod.fst) (k5.same e7).sl ⟨D, D5, D9, _, slH_sl2 dxx, (SlX.putS_ne (by decide)).mpr w5', (SlX.putS_ne (by decide)).mpr w5, SlX.putS_get _ _ _, n5, ?_, ?_, ?_⟩ (N.perm hys hys2 pq) hys hso pq
    · rw [SlX.slH_ne Dx Dd]; exact e7 _ _ hD8
    · rw [SlX.slH_ne D5x D5d]; exact e7 _ _ hD7
    · rw [SlX.slH_ne D9x D9d]; exact hD6
end
end MN
/-! nodes and signs; tables of prices by pairs of nodes -/
namespace MN
open PySem PySem.Spec PyProof.Rows L2
def sgS (c : Nat) : Str := ⟨#[c]⟩
def nS : Nd → Str
  | none => ""
  | some c => sgS c
theorem nS_inj : ∀ {x y : Nd}, nS x = nS y → x = y
  | none, none, _ => rfl
  | none, some c, h => by
    have h' : (("" : Str)).length = (sgS c).length := by rw [show ("" : Str) = sgS c from h]
    cases h'
  | some c, none, h => by
    have h' : (("" : Str)).length = (sgS c).length := by rw [show sgS c = ("" : Str) from h]
    cases h'
  | some c, some d, h => by
    have h' : sgS c = sgS d := h
    simp [sgS] at h'
    rw [h']
/-- the codes of signs -/
def codesOf (zs : List Str) : List Nat := zs.map fun z => z.cps.toList.headD 0
theorem codes_sg {zs : List Str} (h : ∀ z ∈ zs, ∃ c ∈ ("abcde" : Str).cps.toList, z = ⟨#[c]⟩) : (codesOf zs).map sgS = zs := by
  unfold codesOf
  rw [List.map_map]
  conv => rhs; rw [← List.map_id zs]
  refine List.map_congr_left fun z hz => ?_
  obtain ⟨c, _, rfl⟩ := h z hz
  rfl
theorem mem_codes {zs : List Str} (h : ∀ z ∈ zs, ∃ c ∈ ("abcde" : Str).cps.toList, z = ⟨#[c]⟩) {c : Nat} : c ∈ codesOf zs ↔ sgS c ∈ zs := by
  constructor
  · intro hc
    rw [← codes_sg h]
    exact List.mem_map.mpr ⟨c, hc, rfl⟩
  · intro hc
    rw [← codes_sg h] at hc
    obtain ⟨d, hd, e⟩ := List.mem_map.mp hc
    have := nS_inj (x := some d) (y := some c) e
    cases this
    exact hd
theorem codes_nodup {zs : List Str} (h : ∀ z ∈ zs, ∃ c ∈ ("abcde" : Str).cps.toList, z = ⟨#[c]⟩) (nd : zs.Nodup) : (codesOf zs).Nodup := by
  rw [← codes_sg h, List.Nodup, List.pairwise_map] at nd
  exact nd.imp fun {a b} hab e => hab (by rw [e])
/-- the nodes -/
def ndOf (L : List Nat) : List Nd := none :: L.map some
theorem mem_nd {L : List Nat} {x : Nd} : x ∈ ndOf L ↔ InL L x := by
  unfold ndOf
  cases x with
  | none => simp [InL]
  | some a => simp [InL]
theorem nd_nodup {L : List Nat} (h : L.Nodup) : (ndOf L).Nodup := by
  unfold ndOf
  rw [List.nodup_cons]
  refine ⟨by simp, ?_⟩
  rw [List.Nodup, List.pairwise_map]
  exact h.imp fun {a b} hab e => hab (Option.some.inj e)
def findP (qs : List ((Str × Str) × Int)) (x y : Str) : Option Int := (qs.find? fun q => decide (q.1 = (x, y))).map (·.2)
theorem findP_some {qs : List ((Str × Str) × Int)} (nd : (qs.map Prod.fst).Nodup) {x y : Str} {p : Int} : findP qs x y = some p ↔ ((x, y), p) ∈ qs := by
  unfold findP
  constructor
  · intro h
    obtain ⟨q, hq, rfl⟩ := Option.map_eq_some_iff.mp h
    have h1 := List.mem_of_find?_eq_some hq
    have h2 : q.1 = (x, y) := by simpa using List.find?_some hq
    rw [← h2]
    exact h1
  · intro h
    induction qs with
    | nil => cases h
    | cons q qs ih =>
      rw [List.map_cons, List.nodup_cons] at nd
      rw [List.find?_cons]
      rcases List.mem_cons.mp h with rfl | h
      · simp
      · have : q.1 ≠ (x, y) := fun e => nd.1 (by rw [e]; exact List.mem_map.mpr ⟨_, h, rfl⟩)
        simp only [this, decide_false]
        exact ih nd.2 h
theorem findP_perm {qs qs' : List ((Str × Str) × Int)} (nd : (qs.map Prod.fst).Nodup) (h : qs'.Perm qs) (x y : Str) : findP qs' x y = findP qs x y := by
  have nd' : (qs'.map Prod.fst).Nodup := (h.map _).nodup_iff.mpr nd
  cases e : findP qs x y with
  | some p => exact (findP_some nd').mpr (h.mem_iff.mpr ((findP_some nd).mp e))
  | none =>
    cases e' : findP qs' x y with
    | none => rfl
    | some p =>
      have := (findP_some nd).mpr (h.mem_iff.mp ((findP_some nd').mp e'))
      rw [e] at this
      cases this
/-- the prices, by nodes -/
def rOf (L : List Nat) (g o : Str → Int) (qs : List ((Str × Str) × Int)) : Nd → Nd → Option Int
  | none, none => none
  | none, some b => if b ∈ L then some (g (sgS b)) else none
  | some a, none => if a ∈ L then some (o (sgS a)) else none
  | some a, some b => findP qs (sgS a) (sgS b)
theorem rOf_pos {zs zs2 : List Str} {g o : Str → Int} {ps : List ((Str × Str) × Int)} (N : PrN zs zs2 g o ps) : ∀ x y p, rOf (codesOf zs) g o ps x y = some p → 1 ≤ p := by
  intro x y p h
  cases x with
  | none =>
    cases y with
    | none => cases h
    | some b =>
      change (if b ∈ codesOf zs then some (g (sgS b)) else none) = some p at h
      split at h
      · rename_i hb
        cases h
        exact (N.pg _ ((mem_codes N.sg).mp hb)).1
      · cases h
  | some a =>
    cases y with
    | none =>
      change (if a ∈ codesOf zs then some (o (sgS a)) else none) = some p at h
      split at h
      · rename_i hb
        cases h
        exact (N.po _ ((mem_codes N.sg).mp hb)).1
      · cases h
    | some b =>
      have := N.sp _ ((findP_some N.sn).mp h)
      exact this.2.2.2.1
theorem rOf_all {L : List Nat} {g o : Str → Int} {ps : List ((Str × Str) × Int)} : ∀ a ∈ L, (∃ p, rOf L g o ps none (some a) = some p) ∧ ∃ p, rOf L g o ps (some a) none = some p := fun a h => ⟨⟨_, if_pos h⟩, ⟨_, if_pos h⟩⟩
theorem rOf_in {zs zs2 : List Str} {g o : Str → Int} {ps : List ((Str × Str) × Int)} (N : PrN zs zs2 g o ps) {x y : Nd} {p : Int} (h : rOf (codesOf zs) g o ps x y = some p) : InL (codesOf zs) x ∧ InL (codesOf zs) y ∧ x ≠ y := by
  cases x with
  | none =>
    cases y with
    | none => cases h
    | some b =>
      change (if b ∈ codesOf zs then some (g (sgS b)) else none) = some p at h
      split at h
      · rename_i hb
        exact ⟨InL.no, InL.of hb, fun e => nomatch e⟩
      · cases h
  | some a =>
    cases y with
    | none =>
      change (if a ∈ codesOf zs then some (o (sgS a)) else none) = some p at h
      split at h
      · rename_i hb
        exact ⟨InL.of hb, InL.no, fun e => nomatch e⟩
      · cases h
    | some b =>
      have := N.sp _ ((findP_some N.sn).mp h)
      exact ⟨InL.of ((mem_codes N.sg).mpr this.1), InL.of ((mem_codes N.sg).mpr this.2.1), fun e => this.2.2.1 (by cases e; rfl)⟩
/-- what Clo says hangs on the prices of the nodes alone -/
theorem Clo.congr {L : List Nat} {r r' : Nd → Nd → Option Int} {c : Nd → Nd → Int} (C : Clo L r c) (h : ∀ x y, InL L x → InL L y → r' x y = r x y) : Clo L r' c := by
  refine ⟨C.z, C.pos, C.tri, fun x y p hx hy e => C.le x y p hx hy (by rw [← h x y hx hy]; exact e), fun x y hx hy n => ?_⟩
  obtain ⟨z, p, hz, nz, e, q⟩ := C.last x y hx hy n
  exact ⟨z, p, hz, nz, by rw [h z y hz hy]; exact e, q⟩
theorem Clo.perm {L L' : List Nat} {r : Nd → Nd → Option Int} {c : Nd → Nd → Int} (C : Clo L r c) (h : ∀ a, a ∈ L' ↔ a ∈ L) : Clo L' r c := by
  have k : ∀ x, InL L' x → InL L x := fun x hx a e => (h a).mp (hx a e)
  have k' : ∀ x, InL L x → InL L' x := fun x hx a e => (h a).mpr (hx a e)
  refine ⟨C.z, fun x y hx hy n => C.pos x y (k x hx) (k y hy) n, fun x y z hx hy hz => C.tri x y z (k x hx) (k y hy) (k z hz), fun x y p hx hy e => C.le x y p (k x hx) (k y hy) e, fun x y hx hy n => ?_⟩
  obtain ⟨z, p, hz, nz, e, q⟩ := C.last x y (k x hx) (k y hy) n
  exact ⟨z, p, k' z hz, nz, e, q⟩
theorem Clo.uniq {L : List Nat} {r : Nd → Nd → Option Int} {c c' : Nd → Nd → Int} (C : Clo L r c) (C' : Clo L r c') : ∀ x y, InL L x → InL L y → c x y = c' x y := by
  have key : ∀ {c c' : Nd → Nd → Int}, Clo L r c → Clo L r c' → ∀ (n : Nat) (x y : Nd), InL L x → InL L y → c' x y ≤ n → c x y ≤ c' x y := by
    intro c c' C C' n
    induction n with
    | zero =>
      intro x y hx hy h
      by_cases e : x = y
      · subst e; rw [C.z, C'.z]; exact Int.le_refl _
      · have := C'.pos x y hx hy e; omega
    | succ n ih =>
      intro x y hx hy h
      by_cases e : x = y
      · subst e; rw [C.z, C'.z]; exact Int.le_refl _
      · obtain ⟨z, p, hz, nz, er, ec⟩ := C'.last x y hx hy e
        have p0 := C'.le z y p hz hy er
        have p1 := C'.pos z y hz hy nz
        have h1 := ih x z hx hz (by omega)
        have h2 := C.tri x z y hx hz hy
        have h3 := C.le z y p hz hy er
        omega
  intro x y hx hy
  have n1 : 0 ≤ c' x y := by
    by_cases e : x = y
    · subst e; rw [C'.z]; exact Int.le_refl _
    · have := C'.pos x y hx hy e; omega
  have n2 : 0 ≤ c x y := by
    by_cases e : x = y
    · subst e; rw [C.z]; exact Int.le_refl _
    · have := C.pos x y hx hy e; omega
  have h1 := key C C' (c' x y).toNat x y hx hy (by omega)
  have h2 := key C' C (c x y).toNat x y hx hy (by omega)
  omega
theorem Dc_congr {L : List Nat} {c c' : Nd → Nd → Int} (h : ∀ x y, InL L x → InL L y → c x y = c' x y) : ∀ u v : List Nat, (∀ a ∈ u, a ∈ L) → (∀ a ∈ v, a ∈ L) → Dc c u v = Dc c' u v
  | [], [], _, _ => by simp only [Dc]
  | [], y :: v, hu, hv => by
    simp only [Dc]
    rw [Dc_congr h [] v hu fun a q => hv a (List.mem_cons_of_mem _ q), h _ _ InL.no (InL.of (hv y List.mem_cons_self))]
  | x :: u, [], hu, hv => by
    simp only [Dc]
    rw [Dc_congr h u [] (fun a q => hu a (List.mem_cons_of_mem _ q)) hv, h _ _ (InL.of (hu x List.mem_cons_self)) InL.no]
  | x :: u, y :: v, hu, hv => by
    have hu' : ∀ a ∈ u, a ∈ L := fun a q => hu a (List.mem_cons_of_mem _ q)
    have hv' : ∀ a ∈ v, a ∈ L := fun a q => hv a (List.mem_cons_of_mem _ q)
    have hx := InL.of (hu x List.mem_cons_self)
    have hy := InL.of (hv y List.mem_cons_self)
    simp only [Dc]
    rw [Dc_congr h u v hu' hv', Dc_congr h u (y :: v) hu' hv, Dc_congr h (x :: u) v hu hv', h _ _ hx hy, h _ _ hx InL.no, h _ _ InL.no hy]
/-! ### a table as a dict -/
abbrev kN (x y : Nd) : List Key := [.inr (nS x), .inr (nS y)]
theorem kN_inj {x y a b : Nd} (h : kN x y = kN a b) : x = a ∧ y = b := by
  injection h with h1 h2
  injection h2 with h2 _
  exact ⟨nS_inj (Sum.inr.inj h1), nS_inj (Sum.inr.inj h2)⟩
structure TabAt (L : List Nat) (kvs : List (List Key × V)) (O : Nd → Nd → Option Int) : Prop where
  nd : (kvs.map (·.1)).Nodup
  ks : ∀ k ∈ kvs.map (·.1), ∃ x ∈ ndOf L, ∃ y ∈ ndOf L, k = kN x y
  vl : ∀ x y, valV kvs (kN x y) = (O x y).map V.int
def putO (O : Nd → Nd → Option Int) (x y : Nd) (n : Int) : Nd → Nd → Option Int := fun a b => if a = x ∧ b = y then some n else O a b
theorem putK_keys {α : Type} [DecidableEq α] (kvs : List (α × V)) (k : α) (v : V) : (putK kvs k v).map (·.1) = if k ∈ kvs.map (·.1) then kvs.map (·.1) else kvs.map (·.1) ++ [k] := by
  unfold putK
  by_cases h : k ∈ kvs.map (·.1)
  · rw [if_pos h, if_pos]
    · rw [List.map_map]
      refine List.map_congr_left fun kv _ => ?_
      show (if kv.1 = k then (kv.1, v) else kv).1 = kv.1
      split <;> rfl
    · obtain ⟨kv, h1, rfl⟩ := List.mem_map.mp h
      exact List.any_eq_true.mpr ⟨kv, h1, by simp⟩
  · rw [if_neg h, if_neg]
    · simp
    · intro q
      obtain ⟨kv, h1, h2⟩ := List.any_eq_true.mp q
      exact h (List.mem_map.mpr ⟨kv, h1, of_decide_eq_true h2⟩)
theorem TabAt.put {L : List Nat} {kvs : List (List Key × V)} {O : Nd → Nd → Option Int} (T : TabAt L kvs O) {x y : Nd} (hx : x ∈ ndOf L) (hy : y ∈ ndOf L) (n : Int) : TabAt L (putK kvs (kN x y) (.int n)) (putO O x y n) := by
  refine ⟨?_, ?_, fun a b => ?_⟩
  · rw [putK_keys]
    split
    · exact T.nd
    · rename_i h
      rw [List.nodup_append]
      refine ⟨T.nd, by simp, fun a ha b hb => ?_⟩
      rw [List.mem_singleton.mp hb]
      exact fun e => h (by rw [← e]; exact ha)
  · intro k hk
    rw [putK_keys] at hk
    split at hk
    · exact T.ks k hk
    · rcases List.mem_append.mp hk with hk | hk
      · exact T.ks k hk
      · exact ⟨x, hx, y, hy, List.mem_singleton.mp hk⟩
  · rw [valV_put]
    unfold putO
    by_cases e : kN a b = kN x y
    · rw [if_pos e, if_pos (kN_inj e)]; rfl
    · rw [if_neg e, if_neg fun q => e (by rw [q.1, q.2])]
      exact T.vl a b
theorem len_sub {α : Type} [DecidableEq α] : ∀ {l m : List α}, l.Nodup → (∀ a ∈ l, a ∈ m) → l.length ≤ m.length
  | [], _, _, _ => Nat.zero_le _
  | a :: l, m, nd, h => by
    rw [List.nodup_cons] at nd
    have ih := len_sub (l := l) (m := m.erase a) nd.2 fun b hb => by
      rw [List.mem_erase_of_ne (fun e => nd.1 (by rw [← e]; exact hb))]
      exact h b (List.mem_cons_of_mem _ hb)
    have hm := h a List.mem_cons_self
    rw [List.length_erase_of_mem hm] at ih
    have : 0 < m.length := List.length_pos_of_mem hm
    simp only [List.length_cons]
    omega
theorem TabAt.len {L : List Nat} {kvs : List (List Key × V)} {O : Nd → Nd → Option Int} (T : TabAt L kvs O) : kvs.length ≤ (L.length + 1) * (L.length + 1) := by
  have h := len_sub (m := (ndOf L).flatMap fun x => (ndOf L).map fun y => kN x y) T.nd fun k hk => by
    obtain ⟨x, hx, y, hy, rfl⟩ := T.ks k hk
    exact List.mem_flatMap.mpr ⟨x, hx, List.mem_map.mpr ⟨y, hy, rfl⟩⟩
  rw [List.length_map] at h
  have e : ∀ (l m : List Nd), (l.flatMap fun x => m.map fun y => kN x y).length = l.length * m.length := by
    intro l m
    induction l with
    | nil => simp
    | cons a l ih => rw [List.flatMap_cons, List.length_append, ih, List.length_map, List.length_cons, Nat.succ_mul]; omega
  rw [e] at h
  simpa [ndOf] using h
end MN
/-! Closed.__init__ -/
namespace MN
open PySem PySem.Spec PyProof.Rows L2
def codeOf (z : Str) : Nat := z.cps.toList.headD 0
theorem piListK {X : Cx} {K : PySem.W.Frag} (hK : X.K = K) {tg l : Expr} {tl : TE} (hl : PE X l tl) : PI X tg l (iList K tl) := hK ▸ pi_list hl
theorem peSlK {X : Cx} {K : PySem.W.Frag} (hK : X.K = K) {e : Expr} {ta : TE} {f : Str} {pos : Pos} (he : PE X e ta) (hb : attributeBase e f X.env (eval e X.env) = eval e X.env := by rfl) : PE X (.Attribute e f pos) (SlX.tSl K ta f) := hK ▸ SlX.pe_sl he hb
/-- the swap prices of all pairs of some signs -/
structure AllP (ys : List Str) (h : Str → Str → Int) (qs : List ((Str × Str) × Int)) : Prop where
  nd : (qs.map Prod.fst).Nodup
  iff : ∀ e, e ∈ qs ↔ e.1.1 ∈ ys ∧ e.1.2 ∈ ys ∧ e.1.1 ≠ e.1.2 ∧ e.2 = h e.1.1 e.1.2
theorem pairs_len {ys : List Str} {l : List (Str × Str)} (nd : l.Nodup) (h : ∀ e ∈ l, e.1 ∈ ys ∧ e.2 ∈ ys) : l.length ≤ ys.length * ys.length := by
  have h1 := len_sub (m := ys.flatMap fun x => ys.map fun y => (x, y)) nd fun e he => List.mem_flatMap.mpr ⟨e.1, (h e he).1, List.mem_map.mpr ⟨e.2, (h e he).2, rfl⟩⟩
  have e : ∀ (l m : List Str), (l.flatMap fun x => m.map fun y => (x, y)).length = l.length * m.length := by
    intro l m
    induction l with
    | nil => simp
    | cons a l ih => rw [List.flatMap_cons, List.length_append, ih, List.length_map, List.length_cons, Nat.succ_mul]; omega
  rw [e] at h1
  exact h1
theorem AllP.len {ys : List Str} {h : Str → Str → Int} {qs : List ((Str × Str) × Int)} (A : AllP ys h qs) : qs.length ≤ ys.length * ys.length := by
  have := pairs_len (ys := ys) A.nd fun e he => by
    obtain ⟨x, hx, rfl⟩ := List.mem_map.mp he
    exact ⟨((A.iff x).mp hx).1, ((A.iff x).mp hx).2.1⟩
  rwa [List.length_map] at this
theorem AllP.find {ys : List Str} {h : Str → Str → Int} {qs : List ((Str × Str) × Int)} (A : AllP ys h qs) {x y : Str} (hx : x ∈ ys) (hy : y ∈ ys) (n : x ≠ y) : findP qs x y = some (h x y) :=
  (findP_some A.nd).mpr ((A.iff _).mpr ⟨hx, hy, n, rfl⟩)
/-- the pairs put so far -/
def PreP (ys : List Str) (h : Str → Str → Int) (i j : Nat) (qs : List ((Str × Str) × Int)) : Prop := (qs.map Prod.fst).Nodup ∧ ∀ e, e ∈ qs ↔ ((e.1.1 ∈ ys.take i ∧ e.1.2 ∈ ys) ∨ (ys[i]? = some e.1.1 ∧ e.1.2 ∈ ys.take j)) ∧ e.1.1 ≠ e.1.2 ∧ e.2 = h e.1.1 e.1.2
theorem PreP.row {ys : List Str} {h : Str → Str → Int} {i : Nat} {qs : List ((Str × Str) × Int)} (P : PreP ys h i ys.length qs) (hi : i < ys.length) : PreP ys h (i + 1) 0 qs := by
  refine ⟨P.1, fun e => ?_⟩
  rw [P.2 e, List.take_length, List.take_add_one, List.getElem?_eq_getElem hi]
  simp only [Option.toList_some, List.mem_append, List.mem_singleton, Option.some.injEq, List.take_zero, List.not_mem_nil, and_false, or_false]
  constructor
  · rintro ⟨a | ⟨a, b⟩, c⟩
    · exact ⟨⟨.inl a.1, a.2⟩, c⟩
    · exact ⟨⟨.inr a.symm, b⟩, c⟩
  · rintro ⟨⟨a | a, b⟩, c⟩
    · exact ⟨.inl ⟨a, b⟩, c⟩
    · exact ⟨.inr ⟨a.symm, b⟩, c⟩
theorem PreP.skip {ys : List Str} {h : Str → Str → Int} {i j : Nat} {y : Str} {qs : List ((Str × Str) × Int)} (P : PreP ys h i j qs) (hi : ys[i]? = some y) (hj : ys[j]? = some y) : PreP ys h i (j + 1) qs := by
  refine ⟨P.1, fun e => ?_⟩
  rw [P.2 e, List.take_add_one, hj, hi]
  simp only [Option.toList_some, List.mem_append, List.mem_singleton, Option.some.injEq]
  constructor
  · rintro ⟨a | ⟨a, b⟩, c⟩
    · exact ⟨.inl a, c⟩
    · exact ⟨.inr ⟨a, .inl b⟩, c⟩
  · rintro ⟨a | ⟨a, b | b⟩, c⟩
    · exact ⟨.inl a, c⟩
    · exact ⟨.inr ⟨a, b⟩, c⟩
    · exact absurd (a.symm.trans b.symm) c.1
theorem PreP.new {ys : List Str} {h : Str → Str → Int} {i j : Nat} {x y : Str} {qs : List ((Str × Str) × Int)} (P : PreP ys h i j qs) (nd : ys.Nodup) (hi : ys[i]? = some x) (hj : ys[j]? = some y) (n : x ≠ y) : PreP ys h i (j + 1) (qs ++ [((x, y), h x y)]) ∧ (x, y) ∉ qs.map Prod.fst := by
  have nw : (x, y) ∉ qs.map Prod.fst := fun q => by
    obtain ⟨e, he, q⟩ := List.mem_map.mp q
    obtain ⟨a | a, _⟩ := (P.2 e).mp he
    · rw [q] at a; exact take_nodup nd hi a.1
    · rw [q] at a; exact take_nodup nd hj a.2
  refine ⟨⟨?_, fun e => ?_⟩, nw⟩
  · rw [List.map_append, List.nodup_append]
    refine ⟨P.1, by simp, fun a ha b hb => ?_⟩
    rw [show b = (x, y) by simpa using hb]
    exact fun z => nw (by rw [← z]; exact ha)
  · rw [List.mem_append, P.2 e, List.mem_singleton, List.take_add_one, hj, hi]
    simp only [Option.toList_some, List.mem_append, List.mem_singleton, Option.some.injEq]
    constructor
    · rintro (⟨a | ⟨a, b⟩, c⟩ | rfl)
      · exact ⟨.inl a, c⟩
      · exact ⟨.inr ⟨a, .inl b⟩, c⟩
      · exact ⟨.inr ⟨rfl, .inr rfl⟩, n, rfl⟩
    · rintro ⟨a | ⟨a, b | b⟩, c⟩
      · exact .inl ⟨.inl a, c⟩
      · exact .inl ⟨.inr ⟨a, b⟩, c⟩
      · refine .inr ?_
        obtain ⟨⟨e1, e2⟩, e3⟩ := e
        have a' : x = e1 := a
        have b' : e2 = y := b
        subst a'
        subst b'
        have c' : e3 = h x e2 := c.2
        rw [c']
theorem PreP.len {ys : List Str} {h : Str → Str → Int} {i j : Nat} {qs : List ((Str × Str) × Int)} (P : PreP ys h i j qs) : qs.length ≤ ys.length * ys.length := by
  have := pairs_len (ys := ys) P.1 fun e he => by
    obtain ⟨x, hx, rfl⟩ := List.mem_map.mp he
    obtain ⟨a | a, _⟩ := (P.2 x).mp hx
    · exact ⟨List.mem_of_mem_take a.1, a.2⟩
    · exact ⟨List.mem_of_getElem? a.1, List.mem_of_mem_take a.2⟩
  rwa [List.length_map] at this
theorem PreP.all {ys : List Str} {h : Str → Str → Int} {qs : List ((Str × Str) × Int)} (P : PreP ys h ys.length 0 qs) : AllP ys h qs := by
  refine ⟨P.1, fun e => ?_⟩
  rw [P.2 e, List.take_length]
  simp [and_assoc]
/-- all but T stays -/
def But (T : Addr) (H H' : Hp) : Prop := ∀ b o, b ≠ T → H b = some o → H' b = some o
theorem But.refl {T : Addr} {H : Hp} : But T H H := fun _ _ _ e => e
theorem But.same {T : Addr} {H H1 H2 : Hp} (h : But T H H1) (e : Same H1 H2) : But T H H2 := fun b o n q => e _ _ (h b o n q)
theorem But.put {T : Addr} {H H1 : Hp} {o : HO} (h : But T H H1) : But T H (upd H1 T o) := fun b o n q => by rw [upd_ne n]; exact h b o n q
theorem But.trans {T : Addr} {H H1 H2 : Hp} (h : But T H H1) (e : But T H1 H2) : But T H H2 := fun b o n q => e b o n (h b o n q)
theorem But.same0 {T : Addr} {H H1 : Hp} (h : But T H H1) (n : H T = none) : Same H H1 := fun b o q => h b o (fun z => by rw [z, n] at q; cases q) q
theorem But.seqL {K : PySem.W.Frag} {T : Addr} {H H' : Hp} {a : Addr} {xs : List V} (e : But T H H') (h : SqL K H a xs) (hne : a ≠ T) : SqL K H' a xs := by
  rcases h with (h | ⟨o, h⟩) | h
  · exact .inl (.inl (e _ _ hne h))
  · exact .inl (.inr ⟨o, e _ _ hne h⟩)
  · exact .inr h
theorem dtF_new {qs : List ((Str × Str) × Int)} {x y : Str} {n : Int} (h : (x, y) ∉ qs.map Prod.fst) : putK (dtF qs) [.inr x, .inr y] (.int n) = dtF (qs ++ [((x, y), n)]) := by
  rw [putK_fresh]
  · simp [dtF]
  · intro q
    unfold dtF at q
    rw [List.map_map] at q
    obtain ⟨a, ha, e⟩ := List.mem_map.mp q
    have e' : ([Sum.inr a.1.1, Sum.inr a.1.2] : List Key) = [.inr x, .inr y] := e
    injection e' with e1 e2
    injection e2 with e2 _
    exact h (List.mem_map.mpr ⟨a, ha, Prod.ext (Sum.inr.inj e1) (Sum.inr.inj e2)⟩)
section
variable {P : Program} {w : World} {K : PySem.W.Frag} {mg : Str → Option Value} {base : Heap}
/-- closed prices: their instance -/
def ClAt (C : Addr) (H : Hp) (x dx : Addr) (ys : List Str) (c : Nd → Nd → Int) : Prop := ∃ qs, AllP ys (fun a b => c (some (codeOf a)) (some (codeOf b))) qs ∧ PrAt C H x dx ys ys (fun z => c none (some (codeOf z))) (fun z => c (some (codeOf z)) none) qs
theorem ClAt.same {C : Addr} {H H' : Hp} {x dx : Addr} {ys : List Str} {c : Nd → Nd → Int} (h : ClAt C H x dx ys c) (e : Same H H') : ClAt C H' x dx ys c := by
  obtain ⟨qs, h1, h2⟩ := h
  exact ⟨qs, h1, h2.same e⟩
theorem nS_code {z : Str} (h : ∃ c ∈ ("abcde" : Str).cps.toList, z = ⟨#[c]⟩) : nS (some (codeOf z)) = z := by
  obtain ⟨c, _, rfl⟩ := h
  rfl
theorem code_mem {zs : List Str} (h : ∀ z ∈ zs, ∃ c ∈ ("abcde" : Str).cps.toList, z = ⟨#[c]⟩) {z : Str} (hz : z ∈ zs) : codeOf z ∈ codesOf zs := List.mem_map.mpr ⟨z, hz, rfl⟩
def spCInit (K : PySem.W.Frag) (C : Addr) : Sp := fun vs H Q _ => ∃ x dx T a ys kvs O, vs = [.ref x, .ref T, .ref a] ∧ H x = some (.ins C dx []) ∧ H dx = some (.own x) ∧ dx ≠ x ∧ H T = some (.dT kvs) ∧ H a = some (.lst (ys.map V.str)) ∧ ys.length ≤ 5 ∧ ys.Nodup ∧ (∀ z ∈ ys, ∃ c ∈ ("abcde" : Str).cps.toList, z = ⟨#[c]⟩) ∧
  TabAt (codesOf ys) kvs O ∧ (∀ x y, InL (codesOf ys) x → InL (codesOf ys) y → x ≠ y → ∃ t, O x y = some t) ∧ ∀ H', Kp x dx H H' → ClAt C H' x dx ys (cOf O) → Q .non H'
abbrev N_cinit : List Str := ["self", "table", "signs", "sign", "one", "other"]
theorem sc_cinit : FnScope N_cinit ["self", "table", "signs"] (defScope (inClass (top 23) 1)) := ⟨rfl, rfl, rfl, by decide +kernel, rfl, by decide +kernel, by decide +kernel⟩
theorem f_cinit {C f : Addr} {fd : FuncData} (PC : SlotC K C) (F : FunAt K "__init__" "Closed.__init__" (inClass (top 23) 1) [] f fd) (B : Blt mg) : FnOk P w K mg base CX0 1 f fd ["self", "table", "signs"] (spCInit K C) := by
  refine fnok_of F sc_cinit (fun vs H Q E h => ?_) (fun cdv A outer s H vs Q E hr h => ?_)
  · obtain ⟨_, _, _, _, _, _, _, rfl, _⟩ := h; rfl
  · obtain ⟨x, dx, T, a, ys, kvs, O, rfl, hx, hdx, dxx, hT, ha, l5, nd, sg, TA, tot, hQ⟩ := h
    obtain ⟨p0, s0⟩ := PC.s0
    obtain ⟨p1, s1⟩ := PC.s1
    obtain ⟨p2, s2⟩ := PC.s2
    refine ⟨_, pss_cons (SlX.ps_sl (pv 0) (pe_dp1 (own := [("sign", 3)]) (o0 := .dK []) (g := gName 3) (tt := tYes) rfl (hu_of hr) sc_cinit.nd (pi_list (pv 2))
        (blkOk_by (own := [("sign", 3)]) (N := N_cinit) (sc := defScope (inClass (top 23) 1)) (by decide +kernel)) (fun _ _ _ _ _ => (pg_name (i := 3) sc_cinit.nd rfl (Or.inl rfl))) (fun _ _ _ _ _ => pts_nil) (fun _ _ _ _ _ => pv 3) (fun _ _ _ _ _ => pe_dget (hu_of hr) (pv 1) (pe_tup (pa_cons pe_str (pa_cons (pv 3) pa_nil))) (fun _ _ => rfl)) (.inl rfl)))
      (pss_cons (SlX.ps_sl (pv 0) (pe_dp1 (own := [("sign", 3)]) (o0 := .dK []) (g := gName 3) (tt := tYes) rfl (hu_of hr) sc_cinit.nd (pi_list (pv 2))
        (blkOk_by (own := [("sign", 3)]) (N := N_cinit) (sc := defScope (inClass (top 23) 1)) (by decide +kernel)) (fun _ _ _ _ _ => (pg_name (i := 3) sc_cinit.nd rfl (Or.inl rfl))) (fun _ _ _ _ _ => pts_nil) (fun _ _ _ _ _ => pv 3) (fun _ _ _ _ _ => pe_dget (hu_of hr) (pv 1) (pe_tup (pa_cons (pv 3) (pa_cons pe_str pa_nil))) (fun _ _ => rfl)) (.inl rfl)))
      (pss_one (SlX.ps_sl (pv 0) (pe_dp2 (own := [("one", 4), ("other", 5)]) (vs1 := [5]) (o0 := .dT []) (g := gName 4) (tt := tYes) (g1 := gName 5) rfl (hu_of hr) sc_cinit.nd (pi_list (pv 2))
        (blkOk_by (own := [("one", 4), ("other", 5)]) (N := N_cinit) (sc := defScope (inClass (top 23) 1)) (by decide +kernel)) (by decide) (fun _ _ _ _ _ => (pg_name (i := 4) sc_cinit.nd rfl (Or.inl rfl))) (fun _ _ _ _ _ => pts_nil)
        (fun _ _ _ _ _ => piListK (K := K) rfl (pv 2)) (fun _ _ _ _ _ => (pg_name (i := 5) sc_cinit.nd rfl (Or.inl rfl))) (fun _ _ _ _ _ => pts_one (pt_cmpR op_ne (pv 4) (pv 5) (nomark _))) (fun _ _ _ _ _ => pe_tup (pa_cons (pv 4) (pa_cons (pv 5) pa_nil))) (fun _ _ _ _ _ => pe_dget (hu_of hr) (pv 1) (pe_tup (pa_cons (pv 4) (pa_cons (pv 5) pa_nil))) (fun _ _ => rfl)) (.inr rfl))))), ?_⟩
    have ax : a ≠ x := fun z => by rw [z, hx] at ha; cases ha
    have ad : a ≠ dx := fun z => by rw [z, hdx] at ha; cases ha
    have Tx : T ≠ x := fun z => by rw [z, hx] at hT; cases hT
    have Td : T ≠ dx := fun z => by rw [z, hdx] at hT; cases hT
    have val : ∀ {u v : Nd}, InL (codesOf ys) u → InL (codesOf ys) v → u ≠ v → valV kvs (kN u v) = some (.int (cOf O u v)) := fun {u v} hu hv n => by
      obtain ⟨t, e⟩ := tot u v hu hv n
      rw [TA.vl, cOf, e]; rfl
    have inl : ∀ {z : Str}, z ∈ ys → InL (codesOf ys) (some (codeOf z)) := fun hz => InL.of (code_mem sg hz)
    have two : 2 ≤ sizeLine := by decide
    -- own_put
    refine ⟨_, rfl, a, rfl, ⟨_, SqL.of ha⟩, fun D hD => ?_⟩
    refine dp_signs (SqL.of ha) nd (by omega) hD (fun z => cOf O none (some (codeOf z))) (fun _ _ => rfl) (fun y _ H2 _ Q q => ⟨_, rfl, q⟩) (fun y hy H2 e Q q => ⟨_, rfl, _, rfl, two, fun p hp => ⟨T, _, rfl, .inr ⟨kvs, kN none (some (codeOf y)), p, .inl (by rw [upd_ne (ne_of_none (e _ _ hT) hp)]; exact e _ _ hT), rfl, by rw [upd_same]; show _ = some (HO.tup [.str (nS none), .str (nS (some (codeOf y)))]); rw [nS_code (sg y hy)]; rfl, (val InL.no (inl hy) (fun e => nomatch e)).symm⟩, q _ (same_new hp)⟩⟩) (fun H2 e3 hD2 => ?_)
    refine ⟨_, rfl, x, C, dx, p1, [], 1, rfl, .inl ⟨e3 _ _ hx, rfl⟩, PC.sc, s1, ?_⟩
    have Dx : D ≠ x := (ne_of_none hx hD).symm
    have Dd : D ≠ dx := (ne_of_none hdx hD).symm
    have k3 : Kp x dx H (SlX.slH H2 x C dx (SlX.putS 1 (.ref D) [])) := Kp.sl fun b o _ _ q => e3 _ _ q
    have z3 : Sl2 (SlX.slH H2 x C dx (SlX.putS 1 (.ref D) [])) x C dx (SlX.putS 1 (.ref D) []) := slH_sl2 dxx
    have w3 : (SlX.putS 1 (.ref D) [])[1]? = some (some (.ref D)) := SlX.putS_get _ _ _
    have hD3 : SlX.slH H2 x C dx (SlX.putS 1 (.ref D) []) D = some (.dK (dkF ys fun z => cOf O none (some (codeOf z)))) := by rw [SlX.slH_ne Dx Dd]; exact hD2
    generalize SlX.putS 1 (.ref D) [] = v3 at *
    generalize SlX.slH H2 x C dx v3 = H3 at *
    clear hD hD2 e3
    -- own_out
    have ha3 := k3 _ _ ax ad ha
    have hT3 := k3 _ _ Tx Td hT
    refine ⟨_, rfl, a, rfl, ⟨_, SqL.of ha3⟩, fun D5 hD5 => ?_⟩
    refine dp_signs (SqL.of ha3) nd (by omega) hD5 (fun z => cOf O (some (codeOf z)) none) (fun _ _ => rfl) (fun y _ H2 _ Q q => ⟨_, rfl, q⟩) (fun y hy H2 e Q q => ⟨_, rfl, _, rfl, two, fun p hp => ⟨T, _, rfl, .inr ⟨kvs, kN (some (codeOf y)) none, p, .inl (by rw [upd_ne (ne_of_none (e _ _ hT3) hp)]; exact e _ _ hT3), rfl, by rw [upd_same]; show _ = some (HO.tup [.str (nS (some (codeOf y))), .str (nS none)]); rw [nS_code (sg y hy)]; rfl, (val (inl hy) InL.no (fun e => nomatch e)).symm⟩, q _ (same_new hp)⟩⟩) (fun H4 e4 hD6 => ?_)
    refine ⟨_, rfl, x, C, dx, p0, v3, 0, rfl, slt_same e4 (.inr z3), PC.sc, s0, ?_⟩
    have D5x : D5 ≠ x := (ne_of_none z3.1 hD5).symm
    have D5d : D5 ≠ dx := (ne_of_none z3.2 hD5).symm
    have n5 : D ≠ D5 := ne_of_none hD3 hD5
    have k5 : Kp x dx H (SlX.slH H4 x C dx (SlX.putS 0 (.ref D5) v3)) := (k3.same e4).sl
    have z5 : Sl2 (SlX.slH H4 x C dx (SlX.putS 0 (.ref D5) v3)) x C dx (SlX.putS 0 (.ref D5) v3) := slH_sl2 dxx
    have w5 : (SlX.putS 0 (.ref D5) v3)[0]? = some (some (.ref D5)) := SlX.putS_get _ _ _
    have w5' : (SlX.putS 0 (.ref D5) v3)[1]? = some (some (.ref D)) := (SlX.putS_ne (by decide)).mpr w3
    have hD7 : SlX.slH H4 x C dx (SlX.putS 0 (.ref D5) v3) D5 = some (.dK (dkF ys fun z => cOf O (some (codeOf z)) none)) := by rw [SlX.slH_ne D5x D5d]; exact hD6
    have hD8 : SlX.slH H4 x C dx (SlX.putS 0 (.ref D5) v3) D = some (.dK (dkF ys fun z => cOf O none (some (codeOf z)))) := by rw [SlX.slH_ne Dx Dd]; exact e4 _ _ hD3
    generalize SlX.putS 0 (.ref D5) v3 = v5 at *
    generalize SlX.slH H4 x C dx v5 = H5 at *
    clear hD5 hD6 e4 k3 z3 w3 hD3 ha3 hT3
    -- own_swap
    have ha5 := k5 _ _ ax ad ha
    have hT5 := k5 _ _ Tx Td hT
    have ly : (ys.map V.str).length = ys.length := List.length_map ..
    refine ⟨_, rfl, a, rfl, ⟨_, SqL.of ha5⟩, fun D9 hD9 => ?_⟩
    have big : ys.length * ys.length ≤ 25 := Nat.mul_le_mul l5 l5
    refine ⟨fun i m H' => i + m = ys.length ∧ Same H5 H' ∧ ∃ qs, H' D9 = some (.dT (dtF qs)) ∧ PreP ys (fun u v => cOf O (some (codeOf u)) (some (codeOf v))) i 0 qs, ⟨ys.length, Nat.zero_add _, same_new hD9, [], upd_same, by simp, fun e => by simp⟩, fun i m H' e => ?_⟩
    obtain ⟨em, e6, qs, hq, P⟩ := e
    by_cases hi : i < ys.length
    · have hgi : i < (ys.map V.str).length := by omega
      have gi := List.getElem?_eq_getElem hi
      refine .inr ⟨walk_list.goes i _ hgi (Same.seq e6 (SqL.of ha5)), fun H' => Same H5 H' ∧ ∃ qs, H' D9 = some (.dT (dtF qs)) ∧ PreP ys (fun u v => cOf O (some (codeOf u)) (some (codeOf v))) (i + 1) 0 qs, fun H'' e' => ⟨m - 1, by omega, by omega, e'⟩, fun y H'' hy => ?_⟩
      obtain ⟨rfl, hy2⟩ := walk_list.yields i _ _ _ hgi (Same.seq e6 (SqL.of ha5)) hy
      rw [List.getElem?_map, gi] at hy2
      cases hy2
      refine ⟨rfl, yes_q (iteT ⟨_, rfl, a, rfl, ⟨_, Same.seq e6 (SqL.of ha5)⟩, fun j m H' => j + m = ys.length ∧ Same H5 H' ∧ ∃ qs, H' D9 = some (.dT (dtF qs)) ∧ PreP ys (fun u v => cOf O (some (codeOf u)) (some (codeOf v))) i j qs, ⟨ys.length, Nat.zero_add _, e6, qs, hq, P⟩, fun j m H' e => ?_⟩)⟩
      clear P hq e6 qs
      obtain ⟨em, e6, qs, hq, P⟩ := e
      by_cases hj : j < ys.length
      · have hgj : j < (ys.map V.str).length := by omega
        have gj := List.getElem?_eq_getElem hj
        refine .inr ⟨walk_list.goes j _ hgj (Same.seq e6 (SqL.of ha5)), fun H' => Same H5 H' ∧ ∃ qs, H' D9 = some (.dT (dtF qs)) ∧ PreP ys (fun u v => cOf O (some (codeOf u)) (some (codeOf v))) i (j + 1) qs, fun H'' e' => ⟨m - 1, by omega, by omega, e'⟩, fun y H'' hy => ?_⟩
        obtain ⟨rfl, hy2⟩ := walk_list.yields j _ _ _ hgj (Same.seq e6 (SqL.of ha5)) hy
        rw [List.getElem?_map, gj] at hy2
        cases hy2
        refine ⟨rfl, _, rfl, _, rfl, rfl, _, rfl, ?_⟩
        by_cases n : ys[i] = ys[j]
        · rw [show (!decide (V.str ys[i] = V.str ys[j])) = false by simp [n]]
          refine iteF ⟨e6, qs, hq, P.skip gi (by rw [gj, n])⟩
        · rw [show (!decide (V.str ys[i] = V.str ys[j])) = true by simp [n]]
          have mi : ys[i] ∈ ys := List.getElem_mem hi
          have mj : ys[j] ∈ ys := List.getElem_mem hj
          obtain ⟨P2, nw⟩ := P.new nd gi gj n
          refine iteT ⟨_, rfl, _, rfl, two, fun t1 ht1 => ⟨_, rfl, _, rfl, _, rfl, two, fun t2 ht2 => ?_⟩⟩
          have s1 := same_new (o := .tup [.str ys[i], .str ys[j]]) ht1
          have s2 := same_new (o := .tup [.str ys[i], .str ys[j]]) ht2
          have s12 := s1.trans s2
          refine ⟨T, _, rfl, .inr ⟨kvs, kN (some (codeOf ys[i])) (some (codeOf ys[j])), t2, .inl (s12 _ _ (e6 _ _ hT5)), rfl, ?_, (val (inl mi) (inl mj) (fun e => n ?_)).symm⟩, ?_⟩
          · rw [upd_same]
            show _ = some (HO.tup [.str (nS (some (codeOf ys[i]))), .str (nS (some (codeOf ys[j])))])
            rw [nS_code (sg _ mi), nS_code (sg _ mj)]
          · rw [← nS_code (sg _ mi), e, nS_code (sg _ mj)]
          · refine ⟨_, .inr ⟨_, [.inr ys[i], .inr ys[j]], t1, s12 _ _ hq, rfl, s2 _ _ upd_same, ?_, rfl⟩, fun b o q => ?_, qs ++ [((ys[i], ys[j]), _)], ?_, P2⟩
            · have : 100000 < sizeLine := by decide
              have := P.len
              simp [dtF]
              omega
            · rw [upd_ne (ne_of_none q hD9)]; exact s12 _ _ (e6 _ _ q)
            · rw [upd_same, dtF_new nw]
      · obtain rfl : j = ys.length := by omega
        exact .inl ⟨ly ▸ walk_list.stops _ (Same.seq e6 (SqL.of ha5)), e6, qs, hq, P.row hi⟩
    · obtain rfl : i = ys.length := by omega
      refine .inl ⟨ly ▸ walk_list.stops _ (Same.seq e6 (SqL.of ha5)), ?_⟩
      refine ⟨_, rfl, x, C, dx, p2, v5, 2, rfl, slt_same e6 (.inr z5), PC.sc, s2, ?_⟩
      have D9x : D9 ≠ x := (ne_of_none z5.1 hD9).symm
      have D9d : D9 ≠ dx := (ne_of_none z5.2 hD9).symm
      refine hQ _ (k5.same e6).sl ⟨qs, P.all, D, D5, D9, _, slH_sl2 dxx, (SlX.putS_ne (by decide)).mpr w5', (SlX.putS_ne (by decide)).mpr w5, SlX.putS_get _ _ _, n5, ?_, ?_, ?_⟩
      · rw [SlX.slH_ne Dx Dd]; exact e6 _ _ hD8
      · rw [SlX.slH_ne D5x D5d]; exact e6 _ _ hD7
      · rw [SlX.slH_ne D9x D9d]; exact hq
end
end MN
/-! closed_of -/
namespace MN
open PySem PySem.Spec PyProof.Rows L2
theorem TabAt.congr {L : List Nat} {kvs : List (List Key × V)} {O O' : Nd → Nd → Option Int} (T : TabAt L kvs O) (h : ∀ x y, O' x y = O x y) : TabAt L kvs O' := ⟨T.nd, T.ks, fun x y => by rw [h]; exact T.vl x y⟩
theorem valV_mem' {α : Type} [DecidableEq α] {kvs : List (α × V)} {k : α} {v : V} (h : valV kvs k = some v) : k ∈ kvs.map (·.1) := by
  unfold valV at h
  obtain ⟨q, hq, _⟩ := Option.map_eq_some_iff.mp h
  have h2 : q.1 = k := by simpa using List.find?_some hq
  exact List.mem_map.mpr ⟨q, List.mem_of_find?_eq_some hq, h2⟩
/-- the swap prices alone -/
theorem tab_swaps {ys ys2 : List Str} {g o : Str → Int} {qs : List ((Str × Str) × Int)} (N : PrN ys ys2 g o qs) : TabAt (codesOf ys) (dtF qs) (rOf [] g o qs) := by
  have form : ∀ e ∈ qs, ∃ a b, a ∈ codesOf ys ∧ b ∈ codesOf ys ∧ e.1 = (sgS a, sgS b) := fun e he => by
    obtain ⟨h1, h2, _⟩ := N.sp e he
    refine ⟨codeOf e.1.1, codeOf e.1.2, code_mem N.sg h1, code_mem N.sg h2, Prod.ext ?_ ?_⟩
    · exact (nS_code (N.sg _ h1)).symm
    · exact (nS_code (N.sg _ h2)).symm
  refine ⟨dtF_nodup N.sn, fun k hk => ?_, fun x y => ?_⟩
  · unfold dtF at hk
    rw [List.map_map] at hk
    obtain ⟨e, he, rfl⟩ := List.mem_map.mp hk
    obtain ⟨a, b, ha, hb, q⟩ := form e he
    refine ⟨some a, mem_nd.mpr (InL.of ha), some b, mem_nd.mpr (InL.of hb), ?_⟩
    show [Sum.inr e.1.1, Sum.inr e.1.2] = _
    rw [q]; rfl
  · have nope : ∀ x y : Nd, x = none ∨ y = none → valV (dtF qs) (kN x y) = none := fun x y h => dtF_no fun q => by
      obtain ⟨e, he, q⟩ := List.mem_map.mp q
      obtain ⟨a, b, _, _, q2⟩ := form e he
      rw [q] at q2
      have h1 := nS_inj (x := x) (y := some a) (Prod.mk.inj q2).1
      have h2 := nS_inj (x := y) (y := some b) (Prod.mk.inj q2).2
      rcases h with h | h
      · rw [h] at h1; cases h1
      · rw [h] at h2; cases h2
    cases x with
    | none => rw [nope _ _ (.inl rfl)]; cases y <;> rfl
    | some a =>
      cases y with
      | none => rw [nope _ _ (.inr rfl)]; rfl
      | some b =>
        show _ = (findP qs (sgS a) (sgS b)).map V.int
        cases e : findP qs (sgS a) (sgS b) with
        | some p => exact dtF_val N.sn ((findP_some N.sn).mp e)
        | none =>
          refine dtF_no fun q => ?_
          obtain ⟨z, hz, q⟩ := List.mem_map.mp q
          have := (findP_some (p := z.2) N.sn).mpr (show ((sgS a, sgS b), z.2) ∈ qs from by
            have : z = ((sgS a, sgS b), z.2) := Prod.ext q rfl
            rw [← this]; exact hz)
          rw [e] at this
          cases this
theorem rOf_step {L : List Nat} {g o : Str → Int} {qs : List ((Str × Str) × Int)} {i c : Nat} (h : L[i]? = some c) : ∀ x y, rOf (L.take (i + 1)) g o qs x y = putO (putO (rOf (L.take i) g o qs) none (some c) (g (sgS c))) (some c) none (o (sgS c)) x y := by
  have mem : ∀ a, a ∈ L.take (i + 1) ↔ a ∈ L.take i ∨ a = c := fun a => by rw [List.take_add_one, h]; simp
  intro x y
  cases x with
  | none =>
    cases y with
    | none => simp [rOf, putO]
    | some b =>
      simp only [rOf, putO, mem]
      by_cases e : b = c
      · subst e; simp
      · simp [e]
  | some a =>
    cases y with
    | none =>
      simp only [rOf, putO, mem]
      by_cases e : a = c
      · subst e; simp
      · simp [e]
    | some b => simp [rOf, putO]
/-- amid a phase -/
def midO (m : Nd) (O : Nd → Nd → Option Int) (nd : List Nd) (i j : Nat) : Nd → Nd → Option Int := fun x y => if x ∈ nd.take i ∨ (nd[i]? = some x ∧ y ∈ nd.take j) then ph m O x y else O x y
section
variable {m : Nd} {O : Nd → Nd → Option Int} {nd : List Nd}
theorem ph_col (dg : O m m = none) (x : Nd) : ph m O x m = O x m := by
  unfold ph
  split
  · rfl
  · rw [dg]; cases O x m <;> rfl
theorem ph_row (dg : O m m = none) (y : Nd) : ph m O m y = O m y := by
  unfold ph
  split
  · rfl
  · rw [dg]
theorem mid_col (dg : O m m = none) {i j : Nat} (x : Nd) : midO m O nd i j x m = O x m := by
  unfold midO
  split
  · exact ph_col dg x
  · rfl
theorem mid_row (dg : O m m = none) {i j : Nat} (y : Nd) : midO m O nd i j m y = O m y := by
  unfold midO
  split
  · exact ph_row dg y
  · rfl
theorem mid_new {i j : Nat} {x y : Nd} (n : nd.Nodup) (hi : nd[i]? = some x) (hj : nd[j]? = some y) : midO m O nd i j x y = O x y := by
  unfold midO
  rw [if_neg]
  rintro (h | ⟨_, h⟩)
  · exact take_nodup n hi h
  · exact take_nodup n hj h
theorem mid_step {i j : Nat} {x y : Nd} (n : nd.Nodup) (hi : nd[i]? = some x) (hj : nd[j]? = some y) (a b : Nd) : midO m O nd i (j + 1) a b = if a = x ∧ b = y then ph m O x y else midO m O nd i j a b := by
  unfold midO
  rw [List.take_add_one, hj, hi]
  simp only [Option.toList_some, List.mem_append, List.mem_singleton, Option.some.injEq]
  by_cases e : a = x ∧ b = y
  · obtain ⟨rfl, rfl⟩ := e
    rw [if_pos (.inr ⟨rfl, .inr rfl⟩), if_pos ⟨rfl, rfl⟩]
  · rw [if_neg e]
    by_cases c : a ∈ nd.take i ∨ x = a ∧ b ∈ nd.take j
    · rw [if_pos c, if_pos]
      exact c.imp id fun q => ⟨q.1, .inl q.2⟩
    · rw [if_neg c, if_neg]
      rintro (q | ⟨q1, q2 | q2⟩)
      · exact c (.inl q)
      · exact c (.inr ⟨q1, q2⟩)
      · exact e ⟨q1.symm, q2⟩
theorem mid_rowEnd {i : Nat} (hi : i < nd.length) (a b : Nd) (ph_in : ∀ a b, b ∉ nd → ph m O a b = O a b) : midO m O nd (i + 1) 0 a b = midO m O nd i nd.length a b := by
  unfold midO
  rw [List.take_add_one, List.getElem?_eq_getElem hi, List.take_length]
  simp only [Option.toList_some, List.mem_append, List.mem_singleton, Option.some.injEq, List.take_zero, List.not_mem_nil, and_false, or_false]
  by_cases h1 : a ∈ nd.take i
  · rw [if_pos (.inl h1), if_pos (.inl h1)]
  · by_cases h2 : a = nd[i]
    · rw [if_pos (.inr h2)]
      by_cases h3 : b ∈ nd
      · rw [if_pos (.inr ⟨h2.symm, h3⟩)]
      · rw [if_neg]
        · exact ph_in a b h3
        · rintro (q | q)
          · exact h1 q
          · exact h3 q.2
    · rw [if_neg, if_neg]
      · rintro (q | q)
        · exact h1 q
        · exact h2 q.1.symm
      · rintro (q | q)
        · exact h1 q
        · exact h2 q
end
/-- what lies outside of the nodes is no price -/
structure OutO (L : List Nat) (O : Nd → Nd → Option Int) : Prop where
  ins : ∀ x y t, O x y = some t → x ∈ ndOf L ∧ y ∈ ndOf L
theorem OutO.ph {L : List Nat} {O : Nd → Nd → Option Int} {m : Nd} (h : OutO L O) : OutO L (ph m O) := ⟨fun x y t e => by
  rcases ph_or e with e | ⟨a, b, _, e1, e2, _⟩
  · exact h.ins x y t e
  · exact ⟨(h.ins _ _ _ e1).1, (h.ins _ _ _ e2).2⟩⟩
theorem OutO.no {L : List Nat} {O : Nd → Nd → Option Int} (h : OutO L O) {x y : Nd} (n : ¬ (x ∈ ndOf L ∧ y ∈ ndOf L)) : O x y = none := by
  cases e : O x y with
  | none => rfl
  | some t => exact absurd (h.ins x y t e) n
theorem mid_all {L : List Nat} {O : Nd → Nd → Option Int} {m : Nd} (h : OutO L O) (a b : Nd) : midO m O (ndOf L) (ndOf L).length 0 a b = ph m O a b := by
  unfold midO
  rw [List.take_length]
  by_cases h1 : a ∈ ndOf L
  · rw [if_pos (.inl h1)]
  · rw [if_neg]
    · rw [h.no fun q => h1 q.1, h.ph.no fun q => h1 q.1]
    · rintro (q | q)
      · exact h1 q
      · simp at q
section
variable {P : Program} {w : World} {K : PySem.W.Frag} {mg : Str → Option Value} {base : Heap} {Cp Cc : Addr}
/-- the classes Prices and Closed -/
structure PrC (K : PySem.W.Frag) (mg : Str → Option Value) (Cp Cc : Addr) : Prop where
  sp : SlotC K Cp
  sc : SlotC K Cc
  gp : mg "Prices" = some (.ref Cp)
  gc : mg "Closed" = some (.ref Cc)
  ip : ∃ f fd, Mk K Cp f ∧ FunAt K "__init__" "Prices.__init__" (inClass (top 25) 1) [] f fd
  ic : ∃ f fd, Mk K Cc f ∧ FunAt K "__init__" "Closed.__init__" (inClass (top 23) 1) [] f fd
  si : SlX.SIsi K Cp
  isP : PySem.W.kitOne K (.ref Cp) (.ref Cp) = some true
  con : ∃ g fd, PySem.W.findIn K (.ref Cp) "__contains__" = some (some (.ref g)) ∧ PySem.W.isFn K (.ref g) = true ∧ FunAt K "__contains__" "Prices.__contains__" (inClass (top 25) 14) [] g fd
  clo : ∃ g fd, Meth K Cp "closed" g ∧ FunAt K "closed" "Prices.closed" (inClass (top 25) 8) [] g fd
  pput : ∃ p g fd, PropOf K Cp "put" p g ∧ FunAt K "put" "Prices.put" (inClass (top 25) 4) [] g fd
  pout : ∃ p g fd, PropOf K Cp "out" p g ∧ FunAt K "out" "Prices.out" (inClass (top 25) 5) [] g fd
  pswap : ∃ p g fd, PropOf K Cp "swap" p g ∧ FunAt K "swap" "Prices.swap" (inClass (top 25) 6) [] g fd
def spClosedOf (Cp Cc : Addr) : Sp := fun vs H Q _ => ∃ x dx ys ys2 g o qs, vs = [.ref x] ∧ PrAt Cp H x dx ys ys2 g o qs ∧ PrN ys ys2 g o qs ∧
  ∀ q dq c H', Same H H' → H q = none → H dq = none → Clo (codesOf ys) (rOf (codesOf ys) g o qs) c → ClAt Cc H' q dq ys c → Q (.ref q) H'
abbrev N_closed_of : List Str := ["prices", "signs", "table", "pair", "sign", "nodes", "middle", "one", "other", "price"]
theorem sc_closed_of : FnScope N_closed_of ["prices"] (defScope (top 24)) := ⟨rfl, rfl, rfl, by decide +kernel, rfl, by decide +kernel, by decide +kernel⟩
theorem c_closed_of (A : At K mg "closed_of" (top 24)) (B : Blt mg) (PC : PrC K mg Cp Cc) : Cal P w K mg base 3 "closed_of" (spClosedOf Cp Cc) := by
  obtain ⟨fi, fdi, M0, F⟩ := PC.ic
  have b0 := FunD.bindsN (ps := ["self", "table", "signs"]) F fun _ _ _ _ _ _ us hl => match us, hl with | [_, _, _], _ => rfl
  refine cal_of A sc_closed_of (fun _ _ _ _ _ _ us hl => match us, hl with | [_], _ => rfl) (fun vs H Q E h => ?_) (fun f cdv A outer s H vs Q E hr h => ?_)
  · obtain ⟨_, _, _, _, _, _, _, rfl, _⟩ := h; rfl
  · obtain ⟨x, dx, ys, ys2, g, o, qs, rfl, hP, N, hQ⟩ := h
    obtain ⟨p0, s0⟩ := PC.sp.s0
    obtain ⟨p1, s1⟩ := PC.sp.s1
    obtain ⟨p2, s2⟩ := PC.sp.s2
    refine ⟨_, pss_cons (ps_set (i := 1) sc_closed_of.nd rfl (Or.inl rfl) (pe_callTy (call_list_dK rfl) (by rfl) B.list (by decide +kernel) (pa_cons (SlX.pe_sl (pv 0)) pa_nil)))
      (pss_cons (ps_lock (ps_setDp1 (i := 2) (own := [("pair", 3)]) (o0 := .dT []) (g := gName 3) (tt := tYes) rfl (hu_of hr) sc_closed_of.nd rfl rfl (swD_true rfl rfl rfl (by decide +kernel)) (pi_keys (SlX.pe_sl (pv 0)))
        (blkOk_by (own := [("pair", 3)]) (N := N_closed_of) (sc := defScope (top 24)) (by decide +kernel)) (fun _ _ _ _ _ => (pg_name (i := 3) sc_closed_of.nd rfl (Or.inl rfl))) (fun _ _ _ _ _ => pts_nil) (fun _ _ _ _ _ => pv 3) (fun _ _ _ _ _ => pe_dget (hu_of hr) (peSlK (K := K) rfl (pv 0)) (pv 3) (fun _ _ => rfl)) (.inr rfl)))
      (pss_cons (ps_for PassesOwn.never rfl (pi_list (pv 1)) (pg_name (i := 4) sc_closed_of.nd rfl (Or.inl rfl))
        (pss_cons (ps_dput (hu_of hr) (pv 2) (pe_tup (pa_cons pe_str (pa_cons (pv 4) pa_nil))) (pe_dget (hu_of hr) (SlX.pe_sl (pv 0)) (pv 4) (fun _ _ => rfl)) (by rfl))
        (pss_one (ps_dput (hu_of hr) (pv 2) (pe_tup (pa_cons (pv 4) (pa_cons pe_str pa_nil))) (pe_dget (hu_of hr) (SlX.pe_sl (pv 0)) (pv 4) (fun _ _ => rfl)) (by rfl)))))
      (pss_cons (ps_set (i := 5) sc_closed_of.nd rfl (Or.inl rfl) (pe_lst (pa_cons pe_str (StX.pa_star (pv 1) pa_nil))))
      (pss_cons (ps_for PassesOwn.never rfl (pi_list (pv 5)) (pg_name (i := 6) sc_closed_of.nd rfl (Or.inl rfl))
        (pss_one (ps_for PassesOwn.never rfl (pi_list (pv 5)) (pg_name (i := 7) sc_closed_of.nd rfl (Or.inl rfl))
          (pss_one (ps_for PassesOwn.never rfl (pi_list (pv 5)) (pg_name (i := 8) sc_closed_of.nd rfl (Or.inl rfl))
            (pss_one (ps_if (PW.pt (pw_and (pt_cmpR op_ne (pv 7) (pv 8) (nomark _)) (pw_and (pt_cmp (pc_din (hu_of hr) (pe_tup (pa_cons (pv 7) (pa_cons (pv 6) pa_nil))) (pv 2))) (pw_and1 (pt_cmp (pc_din (hu_of hr) (pe_tup (pa_cons (pv 6) (pa_cons (pv 8) pa_nil))) (pv 2)))))))
              (pss_cons (ps_set (i := 9) sc_closed_of.nd rfl (Or.inl rfl) (pe_op op_add (pe_dget (hu_of hr) (pv 2) (pe_tup (pa_cons (pv 7) (pa_cons (pv 6) pa_nil))) (fun _ _ => rfl)) (pe_dget (hu_of hr) (pv 2) (pe_tup (pa_cons (pv 6) (pa_cons (pv 8) pa_nil))) (fun _ _ => rfl))))
              (pss_one (ps_dput (hu_of hr) (pv 2) (pe_tup (pa_cons (pv 7) (pa_cons (pv 8) pa_nil))) (pe_callB (call_min2 rfl) (by rfl) B.min (by decide +kernel) (pa_cons (pv 9) (pa_cons (pe_dget2 (hu_of hr) (pv 2) (pe_tup (pa_cons (pv 7) (pa_cons (pv 8) pa_nil))) (pv 9) ⟨by rfl, by rfl, by rfl, by rfl⟩) pa_nil))) (by rfl))))
              pss_nil)))))))
      (pss_one (ps_ret (pe_make M0 (f_cinit (P := P) (w := w) (mg := mg) (base := base) PC.sc F B) (hr.mono (by decide)) (by rfl) PC.gc b0 .nil pass0 (pa_cons (pv 2) (pa_cons (pv 1) pa_nil))))))))), ?_⟩
    have hP0 := hP
    obtain ⟨PA, PB, PS, ws, hs, w1, w0, w2, nAB, hA, hB, hS⟩ := hP
    have two : 2 ≤ sizeLine := by decide
    have lz : ys.length ≤ 5 := N.le
    have keyz : (dkF ys g).map (fun kv => kV kv.1) = ys.map V.str := by unfold dkF; rw [List.map_map]; rfl
    have sgn := N.sg
    -- signs
    refine ⟨_, rfl, x, Cp, dx, p1, ws, 1, _, rfl, .inr hs, PC.sp.sc, s1, w1, PA, _, rfl, hA, fun q1 hq1 => ?_⟩
    rw [keyz]
    have e1 := same_new (o := .lst (ys.map V.str)) hq1
    have hsg : upd H q1 (.lst (ys.map V.str)) q1 = some (.lst (ys.map V.str)) := upd_same
    generalize upd H q1 (.lst (ys.map V.str)) = H1 at e1 hsg ⊢
    -- table
    have S1 : Sl2 H1 x Cp dx ws := ⟨e1 _ _ hs.1, e1 _ _ hs.2⟩
    have hS1 := e1 _ _ hS
    refine ⟨PS, _, hS1, trivial, fun od => ?_⟩
    have xS : x ≠ PS := fun z => by
      have q := hs.1
      rw [z, hS] at q
      injection q with q
      unfold SlX.SlO at q
      cases q
    have dS : dx ≠ PS := fun z => by
      have q := hs.2
      rw [z, hS] at q
      cases q
    have S1' : Sl2 (upd H1 PS (.frz od (.dT (dtF qs)))) x Cp dx ws := ⟨by rw [upd_ne xS]; exact S1.1, by rw [upd_ne dS]; exact S1.2⟩
    refine ⟨_, rfl, x, Cp, dx, p2, ws, 2, _, rfl, .inr S1', PC.sp.sc, s2, w2, PS, od, rfl, .inr ⟨_, upd_same, fun T hT0 => ?_⟩⟩
    have TS : T ≠ PS := fun z => by rw [z, upd_same] at hT0; cases hT0
    have hT1 : H1 T = none := by rw [upd_ne TS] at hT0; exact hT0
    have apart : ∀ b u, H1 b = some u → b ≠ T := fun b u q => ne_of_none q hT1
    refine dp_it walk_keysT (fun i H' => Same (upd H1 PS (.frz od (.dT (dtF qs)))) H' ∧ H' T = some (.dT (dtF (qs.take i)))) ⟨same_new hT0, by rw [List.take_zero]; exact upd_same⟩ (fun i H' _ e => e.1 _ _ upd_same) (fun i y Ha Hb hi e hy => ?_) (fun H2' e => ⟨e.1 _ _ upd_same, ?_⟩)
    · obtain ⟨rfl, k, v, b, hk, rfl, hb⟩ := hy
      obtain ⟨ea, eT⟩ := e
      unfold dtF at hk
      rw [List.getElem?_map] at hk
      obtain ⟨⟨⟨z1, z2⟩, n⟩, hz, ek⟩ := Option.map_eq_some_iff.mp hk
      cases ek
      refine ⟨rfl, yes_q (iteT ⟨_, rfl, _, rfl, x, Cp, dx, p2, ws, 2, _, rfl, slt_same ea (.inr S1'), PC.sp.sc, s2, w2, _, rfl, PS, .int n, rfl, .inr ⟨_, [.inr z1, .inr z2], b, .inr ⟨od, ea _ _ upd_same⟩, rfl, hb, (dtF_val N.sn (List.mem_of_getElem? hz)).symm⟩, _, .inr ⟨_, [.inr z1, .inr z2], b, eT, rfl, hb, ?_, rfl⟩, fun c u q => ?_, ?_⟩)⟩
      · have : 100000 < sizeLine := by decide
        have := N.sl
        simp [dtF]
        omega
      · rw [upd_ne (ne_of_none q hT0)]; exact ea _ _ q
      · rw [upd_same, dtF_put N.sn hz]
    obtain ⟨ea, eT⟩ := e
    have e2 : Same H1 (upd H2' PS (.dT (dtF qs))) := fun b u q => by
      by_cases z : b = PS
      · rw [z, upd_same]; rw [z, hS1] at q; exact q
      · rw [upd_ne z]; exact ea _ _ (by rw [upd_ne z]; exact q)
    have hT2 : upd H2' PS (.dT (dtF qs)) T = some (.dT (dtF qs)) := by
      have : (dtF qs).length = qs.length := by simp [dtF]
      rw [upd_ne TS, eT, this, List.take_length]
    generalize upd H2' PS (.dT (dtF qs)) = H2 at e2 hT2 ⊢
    clear ea eT
    have e12 := e1.trans e2
    -- put and out prices
    have gL : ∀ {i : Nat} {z : Str}, ys[i]? = some z → (codesOf ys)[i]? = some (codeOf z) := fun h => by unfold codesOf; rw [List.getElem?_map, h]; rfl
    have bigL : (codesOf ys).length ≤ 5 := by simpa [codesOf] using lz
    have small : ∀ {kvs : List (List Key × V)} {O : Nd → Nd → Option Int}, TabAt (codesOf ys) kvs O → kvs.length < sizeLine := fun {kvs O} T => by
      have h1 := T.len
      have h2 : ((codesOf ys).length + 1) * ((codesOf ys).length + 1) ≤ 6 * 6 := Nat.mul_le_mul (by omega) (by omega)
      have : 100000 < sizeLine := by decide
      omega
    refine ⟨_, rfl, q1, rfl, ⟨_, SqL.of (e2 _ _ hsg)⟩, for_it walk_list (fun i σ H' => (∃ o4, σ = [some (.ref x), some (.ref q1), some (.ref T), none, o4, none, none, none, none, none]) ∧ But T H2 H' ∧ ∃ kvs, H' T = some (.dT kvs) ∧ TabAt (codesOf ys) kvs (rOf ((codesOf ys).take i) g o qs)) ⟨⟨_, rfl⟩, But.refl, _, hT2, by rw [List.take_zero]; exact tab_swaps N⟩ (fun i σ H' _ e => e.2.1.seqL (SqL.of (e2 _ _ hsg)) (apart _ _ hsg)) (fun i y σ Ha Hb hi e hy => ?_) (fun σ H3 e => ?_)⟩
    · obtain ⟨rfl, hy⟩ := hy
      obtain ⟨⟨o4, rfl⟩, eb, kvs, hT3, TA⟩ := e
      rw [List.getElem?_map] at hy
      obtain ⟨z, hz, rfl⟩ := Option.map_eq_some_iff.mp hy
      have mz := List.mem_of_getElem? hz
      have keep : ∀ b u, H b = some u → Hb b = some u := fun b u q => eb b u (apart _ _ (e1 _ _ q)) (e12 _ _ q)
      have inz : some (codeOf z) ∈ ndOf (codesOf ys) := mem_nd.mpr (InL.of (code_mem sgn mz))
      have inn : none ∈ ndOf (codesOf ys) := mem_nd.mpr InL.no
      refine ⟨_, rfl, x, Cp, dx, p1, ws, 1, _, rfl, .inr ⟨keep _ _ hs.1, keep _ _ hs.2⟩, PC.sp.sc, s1, w1, _, rfl, PA, .int (g z), rfl, .inl ⟨_, .inr z, .inl (keep _ _ hA), rfl, (dkF_val N.nd g mz).symm⟩, _, rfl, _, rfl, two, fun t1 ht1 => ?_⟩
      have f1 := same_new (o := .tup [.str "", .str z]) ht1
      refine ⟨T, _, rfl, .inr ⟨kvs, kN none (some (codeOf z)), t1, f1 _ _ hT3, rfl, ?_, small TA, rfl⟩, ?_⟩
      · rw [upd_same]
        show _ = some (HO.tup [.str (nS none), .str (nS (some (codeOf z)))])
        rw [nS_code (sgn z mz)]; rfl
      have T1 := TA.put inn inz (g z)
      have b1 : But T H2 (upd (upd Hb t1 (.tup [.str "", .str z])) T (.dT (putK kvs (kN none (some (codeOf z))) (.int (g z))))) := (eb.same f1).put
      have hT4 : upd (upd Hb t1 (.tup [.str "", .str z])) T (.dT (putK kvs (kN none (some (codeOf z))) (.int (g z)))) T = some (.dT (putK kvs (kN none (some (codeOf z))) (.int (g z)))) := upd_same
      generalize upd (upd Hb t1 (.tup [.str "", .str z])) T (.dT (putK kvs (kN none (some (codeOf z))) (.int (g z)))) = Hc at b1 hT4 ⊢
      have keep2 : ∀ b u, H b = some u → Hc b = some u := fun b u q => b1 b u (apart _ _ (e1 _ _ q)) (e12 _ _ q)
      refine ⟨_, rfl, x, Cp, dx, p0, ws, 0, _, rfl, .inr ⟨keep2 _ _ hs.1, keep2 _ _ hs.2⟩, PC.sp.sc, s0, w0, _, rfl, PB, .int (o z), rfl, .inl ⟨_, .inr z, .inl (keep2 _ _ hB), rfl, (dkF_val (N.pm.nodup_iff.mpr N.nd) o (N.pm.mem_iff.mpr mz)).symm⟩, _, rfl, _, rfl, two, fun t2 ht2 => ?_⟩
      have f2 := same_new (o := .tup [.str z, .str ""]) ht2
      refine ⟨T, _, rfl, .inr ⟨_, kN (some (codeOf z)) none, t2, f2 _ _ hT4, rfl, ?_, small T1, rfl⟩, ⟨_, rfl⟩, (b1.same f2).put, _, upd_same, ?_⟩
      · rw [upd_same]
        show _ = some (HO.tup [.str (nS (some (codeOf z))), .str (nS none)])
        rw [nS_code (sgn z mz)]; rfl
      · refine (T1.put inz inn (o z)).congr fun u v => ?_
        rw [rOf_step (gL hz), show sgS (codeOf z) = z from nS_code (sgn z mz)]
    obtain ⟨⟨o4, rfl⟩, b3, kvs0, hT3, TA0⟩ := e
    rw [List.length_map, show ys.length = (codesOf ys).length by simp [codesOf], List.take_length] at TA0
    -- nodes
    have hsg3 := b3 _ _ (apart _ _ hsg) (e2 _ _ hsg)
    refine ⟨_, rfl, q1, _, rfl, .inr (SqL.of hsg3), ?_, fun Nn hNn => ?_⟩
    · have : 100000 < sizeLine := by decide
      simp
      omega
    have en : V.str "" :: (ys.map V.str ++ []) = (ndOf (codesOf ys)).map fun x => V.str (nS x) := by
      unfold ndOf
      rw [List.map_cons, List.map_map, List.append_nil]
      congr 1
      conv => lhs; rw [← codes_sg sgn]
      rw [List.map_map]; rfl
    have up4 : Same H3 (upd H3 Nn (.lst (V.str "" :: (ys.map V.str ++ [])))) := same_new hNn
    have hN4 : upd H3 Nn (.lst (V.str "" :: (ys.map V.str ++ []))) Nn = some (.lst ((ndOf (codesOf ys)).map fun x => V.str (nS x))) := by rw [upd_same, en]
    have NnT : Nn ≠ T := (ne_of_none hT3 hNn).symm
    have hT4 := up4 _ _ hT3
    have b4 : But T H2 (upd H3 Nn (.lst (V.str "" :: (ys.map V.str ++ [])))) := b3.same up4
    generalize upd H3 Nn (.lst (V.str "" :: (ys.map V.str ++ []))) = H4 at hN4 hT4 b4 ⊢
    clear up4 hNn hsg3 b3 hT3
    have ndn : (ndOf (codesOf ys)).Nodup := nd_nodup (codes_nodup sgn N.nd)
    have rp := rOf_pos N
    generalize hr0 : rOf (codesOf ys) g o qs = r0 at TA0 rp hQ
    have rin : ∀ {x y p}, r0 x y = some p → InL (codesOf ys) x ∧ InL (codesOf ys) y ∧ x ≠ y := fun h => by rw [← hr0] at h; exact rOf_in N h
    have T0 : Tb (codesOf ys) r0 (fun z => z ∈ (ndOf (codesOf ys)).take 0) r0 := by
      refine ⟨fun x => ?_, fun x y t h => .one (rin h).1 (rin h).2.1 h, fun x y p _ _ h => ⟨p, h, Int.le_refl _⟩, fun m x y a b hm => by simp at hm⟩
      cases e : r0 x x with
      | none => rfl
      | some p => exact absurd rfl (rin e).2.2
    have out0 : OutO (codesOf ys) r0 := ⟨fun x y t h => ⟨mem_nd.mpr (rin h).1, mem_nd.mpr (rin h).2.1⟩⟩
    have sqN : ∀ {H' : Hp}, But T H4 H' → SqL K H' Nn ((ndOf (codesOf ys)).map fun x => V.str (nS x)) := fun b => b.seqL (SqL.of hN4) NnT
    have lenN : ((ndOf (codesOf ys)).map fun x => V.str (nS x)).length = (ndOf (codesOf ys)).length := List.length_map ..
    have getN : ∀ {i : Nat} {v : V}, ((ndOf (codesOf ys)).map fun x => V.str (nS x))[i]? = some v → ∃ x, (ndOf (codesOf ys))[i]? = some x ∧ v = .str (nS x) := fun h => by
      rw [List.getElem?_map] at h
      obtain ⟨x, hx, rfl⟩ := Option.map_eq_some_iff.mp h
      exact ⟨x, hx, rfl⟩
    refine ⟨_, rfl, Nn, rfl, ⟨_, sqN But.refl⟩, for_it walk_list (fun k σ H' => (∃ o6 o7 o8 o9, σ = [some (.ref x), some (.ref q1), some (.ref T), none, o4, some (.ref Nn), o6, o7, o8, o9]) ∧ But T H4 H' ∧ ∃ kvs O, H' T = some (.dT kvs) ∧ TabAt (codesOf ys) kvs O ∧ Tb (codesOf ys) r0 (fun z => z ∈ (ndOf (codesOf ys)).take k) O ∧ OutO (codesOf ys) O) ⟨⟨_, _, _, _, rfl⟩, But.refl, _, _, hT4, TA0, T0, out0⟩ (fun i σ H' _ e => sqN e.2.1) (fun k y σ Ha Hb hk e hy => ?_) (fun σ H5 e => ?_)⟩
    · obtain ⟨rfl, hy⟩ := hy
      obtain ⟨⟨o6, o7, o8, o9, rfl⟩, eb, kvs, O, hT5, TA, TT, out⟩ := e
      obtain ⟨m, hm, rfl⟩ := getN hy
      have dg : O m m = none := TT.dg m
      have mN : m ∈ ndOf (codesOf ys) := List.mem_of_getElem? hm
      clear hT4 TA0
      refine ⟨_, rfl, Nn, rfl, ⟨_, sqN eb⟩, for_it walk_list (fun i σ H' => (∃ o7 o8 o9, σ = [some (.ref x), some (.ref q1), some (.ref T), none, o4, some (.ref Nn), some (.str (nS m)), o7, o8, o9]) ∧ But T H4 H' ∧ ∃ kvs, H' T = some (.dT kvs) ∧ TabAt (codesOf ys) kvs (midO m O (ndOf (codesOf ys)) i 0)) ⟨⟨_, _, _, rfl⟩, eb, _, hT5, TA.congr fun a b => by simp [midO]⟩ (fun i σ H' _ e => sqN e.2.1) (fun i y σ Ha Hc hi e hy => ?_) (fun σ H6 e => ?_)⟩
      · obtain ⟨rfl, hy⟩ := hy
        clear TA hT5 eb
        obtain ⟨⟨o7, o8, o9, rfl⟩, eb, kvs, hT5, TA⟩ := e
        obtain ⟨u, hu, rfl⟩ := getN hy
        have uN : u ∈ ndOf (codesOf ys) := List.mem_of_getElem? hu
        refine ⟨_, rfl, Nn, rfl, ⟨_, sqN eb⟩, for_it walk_list (fun j σ H' => (∃ o8 o9, σ = [some (.ref x), some (.ref q1), some (.ref T), none, o4, some (.ref Nn), some (.str (nS m)), some (.str (nS u)), o8, o9]) ∧ But T H4 H' ∧ ∃ kvs, H' T = some (.dT kvs) ∧ TabAt (codesOf ys) kvs (midO m O (ndOf (codesOf ys)) i j)) ⟨⟨_, _, rfl⟩, eb, _, hT5, TA⟩ (fun i σ H' _ e => sqN e.2.1) (fun j y σ Ha Hd hj e hy => ?_) (fun σ H7 e => ?_)⟩
        · obtain ⟨rfl, hy⟩ := hy
          clear TA hT5 eb
          obtain ⟨⟨o8, o9, rfl⟩, eb, kvs, hT5, TA⟩ := e
          obtain ⟨v, hv, rfl⟩ := getN hy
          have vN : v ∈ ndOf (codesOf ys) := List.mem_of_getElem? hv
          have v1 : valV kvs (kN u m) = (O u m).map V.int := by rw [TA.vl, mid_col dg]
          have v2 : valV kvs (kN m v) = (O m v).map V.int := by rw [TA.vl, mid_row dg]
          have v3 : valV kvs (kN u v) = (O u v).map V.int := by rw [TA.vl, mid_new ndn hu hv]
          have stay : ph m O u v = O u v → TabAt (codesOf ys) kvs (midO m O (ndOf (codesOf ys)) i (j + 1)) := fun h => TA.congr fun a b => by
            rw [mid_step ndn hu hv]
            split
            · rename_i q
              rw [h, q.1, q.2, mid_new ndn hu hv]
            · rfl
          refine ⟨_, rfl, _, rfl, rfl, _, rfl, ?_⟩
          by_cases n : u = v
          · rw [show (!decide (V.str (nS u) = V.str (nS v))) = false by simp [n]]
            refine iteF (iteF ⟨⟨_, _, rfl⟩, eb, kvs, hT5, stay ?_⟩)
            unfold ph
            rw [if_pos n]
          · rw [show (!decide (V.str (nS u) = V.str (nS v))) = true by
              have : nS u ≠ nS v := fun e => n (nS_inj e)
              simp [this]]
            refine iteT ⟨_, rfl, _, rfl, two, fun t1 ht1 => ?_⟩
            have f1 := same_new (o := .tup [.str (nS u), .str (nS m)]) ht1
            have g1 : upd Hd t1 (.tup [.str (nS u), .str (nS m)]) t1 = some (.tup ((kN u m).map kV)) := upd_same
            refine ⟨_, rfl, T, (O u m).map V.int, rfl, .inr ⟨kvs, kN u m, t1, .inl (f1 _ _ hT5), rfl, g1, v1.symm⟩, _, rfl, ?_⟩
            have b1 := eb.same f1
            have hT6 := f1 _ _ hT5
            generalize upd Hd t1 (.tup [.str (nS u), .str (nS m)]) = He at b1 hT6 ⊢
            cases e1 : O u m with
            | none =>
              refine iteF (iteF ⟨⟨_, _, rfl⟩, b1, kvs, hT6, stay ?_⟩)
              unfold ph
              rw [if_neg n, e1]
            | some p =>
              refine iteT ⟨_, rfl, _, rfl, two, fun t2 ht2 => ?_⟩
              have f2 := same_new (o := .tup [.str (nS m), .str (nS v)]) ht2
              have g2 : upd He t2 (.tup [.str (nS m), .str (nS v)]) t2 = some (.tup ((kN m v).map kV)) := upd_same
              refine ⟨_, rfl, T, (O m v).map V.int, rfl, .inr ⟨kvs, kN m v, t2, .inl (f2 _ _ hT6), rfl, g2, v2.symm⟩, _, rfl, ?_⟩
              have b2 := b1.same f2
              have hT7 := f2 _ _ hT6
              generalize upd He t2 (.tup [.str (nS m), .str (nS v)]) = Hf at b2 hT7 ⊢
              cases e2 : O m v with
              | none =>
                refine iteF ⟨⟨_, _, rfl⟩, b2, kvs, hT7, stay ?_⟩
                unfold ph
                rw [if_neg n, e1, e2]
              | some q =>
                refine iteT ⟨_, rfl, _, rfl, _, rfl, two, fun t3 ht3 => ?_⟩
                have f3 := same_new (o := .tup [.str (nS u), .str (nS m)]) ht3
                refine ⟨T, .int p, rfl, .inr ⟨kvs, kN u m, t3, .inl (f3 _ _ hT7), rfl, upd_same, by rw [v1, e1]; rfl⟩, _, rfl, _, rfl, _, rfl, two, fun t4 ht4 => ?_⟩
                have f4 := same_new (o := .tup [.str (nS m), .str (nS v)]) ht4
                refine ⟨T, .int q, rfl, .inr ⟨kvs, kN m v, t4, .inl (f4 _ _ (f3 _ _ hT7)), rfl, upd_same, by rw [v2, e2]; rfl⟩, _, _, rfl, rfl, ?_⟩
                have b3 := (b2.same f3).same f4
                have hT8 := f4 _ _ (f3 _ _ hT7)
                generalize upd (upd Hf t3 (.tup [.str (nS u), .str (nS m)])) t4 (.tup [.str (nS m), .str (nS v)]) = Hg at b3 hT8 ⊢
                refine ⟨_, rfl, _, rfl, T, rfl, .inr ⟨kvs, .inl hT8⟩, _, rfl, _, rfl, two, fun t5 ht5 => ?_⟩
                have f5 := same_new (o := .tup [.str (nS u), .str (nS v)]) ht5
                refine ⟨_, rfl, (O u v).map V.int, .inr ⟨kvs, kN u v, t5, .inl (f5 _ _ hT8), rfl, upd_same, v3.symm⟩, p + q, (O u v).getD (p + q), ?_, ?_⟩
                · cases O u v <;> rfl
                refine ⟨_, rfl, _, rfl, _, rfl, two, fun t6 ht6 => ?_⟩
                have f6 := same_new (o := .tup [.str (nS u), .str (nS v)]) ht6
                refine ⟨T, _, rfl, .inr ⟨kvs, kN u v, t6, f6 _ _ (f5 _ _ hT8), rfl, upd_same, small TA, rfl⟩, ⟨_, _, rfl⟩, ((b3.same f5).same f6).put, _, upd_same, ?_⟩
                refine (TA.put uN vN _).congr fun a b => ?_
                rw [mid_step ndn hu hv]
                unfold putO
                split
                · unfold ph
                  rw [if_neg n, e1, e2]
                  cases O u v with
                  | none => simp
                  | some t =>
                    show some (min (p + q) t) = some (if t < p + q then t else p + q)
                    congr 1
                    split <;> omega
                · rfl
        · obtain ⟨⟨o8, o9, rfl⟩, eb, kvs, hT5, TA⟩ := e
          have hi' : i < (ndOf (codesOf ys)).length := by rw [← lenN]; exact hi
          rw [lenN] at TA
          refine ⟨⟨_, _, _, rfl⟩, eb, kvs, hT5, TA.congr fun a b => mid_rowEnd hi' a b fun a b h => ?_⟩
          rw [out.no fun q => h q.2, out.ph.no fun q => h q.2]
      · clear TA hT5 eb
        obtain ⟨⟨o7, o8, o9, rfl⟩, eb, kvs, hT5, TA⟩ := e
        rw [lenN] at TA
        refine ⟨⟨_, _, _, _, rfl⟩, eb, kvs, ph m O, hT5, TA.congr fun a b => (mid_all out a b).symm, ?_, out.ph⟩
        have TP := TT.phase (m := m) rp
        refine ⟨TP.dg, TP.pa, TP.le, fun k' x y a b hk' => TP.tri k' x y a b ?_⟩
        rw [List.take_add_one, hm] at hk'
        simpa using hk'
    · obtain ⟨⟨o6, o7, o8, o9, rfl⟩, eb, kvs, O, hT5, TA, TT, out⟩ := e
      rw [lenN, List.take_length] at TT
      have TL : Tb (codesOf ys) r0 (InL (codesOf ys)) O := ⟨TT.dg, TT.pa, TT.le, fun k' x y a b hk' => TT.tri k' x y a b (mem_nd.mpr hk')⟩
      obtain ⟨CL, tot⟩ := TL.clo rp (by rw [← hr0]; exact rOf_all)
      have sg5 := eb _ _ (apart _ _ hsg) (b4 _ _ (apart _ _ hsg) (e2 _ _ hsg))
      have up0 : ∀ b u, H b = some u → H5 b = some u := fun b u q => eb _ _ (apart _ _ (e1 _ _ q)) (b4 _ _ (apart _ _ (e1 _ _ q)) (e12 _ _ q))
      have fr : ∀ {b}, H5 b = none → H b = none := fun {b} h => by
        cases e : H b with
        | none => rfl
        | some u => rw [up0 _ _ e] at h; cases h
      refine ⟨_, rfl, _, rfl, fun cx cdx hcx hcdx nn => ?_⟩
      have nx : ∀ b u, H5 b = some u → b ≠ cx ∧ b ≠ cdx := fun b u e => ⟨ne_of_none e hcx, ne_of_none e hcdx⟩
      have up : ∀ b u, H5 b = some u → upd (upd H5 cdx (.own cx)) cx (.ins Cc cdx []) b = some u := fun b u e => by
        rw [upd_ne (nx b u e).1, upd_ne (nx b u e).2]; exact e
      refine ⟨cx, cdx, T, q1, ys, kvs, O, rfl, upd_same, by rw [upd_ne nn, upd_same], nn, up _ _ hT5, up _ _ sg5, lz, N.nd, sgn, TA, tot, fun H' kp cl => ⟨rfl, hQ cx cdx (cOf O) H' (fun b u q => ?_) (fr hcx) (fr hcdx) CL cl⟩⟩
      have q5 := up0 _ _ q
      exact kp b u (nx _ _ q5).1 (nx _ _ q5).2 (up _ _ q5)
end
end MN
/-! enumerate(text) -/
namespace MN
open PySem PySem.Spec PyProof.Rows L2
/-- the signs with their places, each in a new pair -/
def Ites (z : Str) : It :=
  ⟨fun i _ => i < z.cps.size, fun i H v H' => ∃ T c, z.cps[i]? = some c ∧ v = .ref T ∧ H T = none ∧ H' = upd H T (.tup [.int (i : Nat), .str ⟨#[c]⟩]), fun i _ => i = z.cps.size⟩
theorem draws_str {prog : Program} {w : World} {A : Around} (hh : A.handled = none) (it : Addr) (x : Str) (t : Tok) (ty : String) (hty : ty = "str_ascii_iterator" ∨ ty = "str_iterator") :
    Draws prog w A it [it] x.cps.size (fun i v => ∃ c u, x.cps[i]? = some c ∧ v = .str ⟨#[c]⟩ u) (fun i h => h.IsStrIter it ty x t i) := by
  rcases hty with rfl | rfl
  · exact Draws.strAscii hh it x t
  · exact Draws.strWide hh it x t
theorem turn_enumS {P : Program} {w : World} {K : PySem.W.Frag} {elts : List Expr} {kk : Nat} {tpos : Pos} (z : Str) (t : Tok) (ty : String) (hty : ty = "str_ascii_iterator" ∨ ty = "str_iterator") (e it : Addr) :
    Turn P w K (.Tuple elts kk tpos) (Ites z) [e, it] e (fun i h => (∃ old, IsEnum h e it ((i : Nat) : Int) old) ∧ h.IsStrIter it ty z t i ∧ e ≠ it) where
  mem := by simp
  obj := fun i h st b hb => by
    obtain ⟨⟨old, he⟩, ⟨o, ho, hc, hd⟩, _⟩ := st
    have e' : b = e ∨ b = it := by simpa using hb
    rcases e' with z | z
    · rw [z]; exact ⟨_, he, fun v q => nomatch q⟩
    · rw [z]; exact ⟨o, ho, fun v q => by rw [hd] at q; cases q⟩
  keep := fun i h h' st k => by
    obtain ⟨⟨old, he⟩, ⟨o, ho, r⟩, hne⟩ := st
    exact ⟨⟨old, k e (by simp) _ he⟩, ⟨o, k it (by simp) o ho, r⟩, hne⟩
  item := by
    intro X hP hw hK hc i pins s σ H E I hf st hg
    subst hP hw hK
    obtain ⟨⟨old, he⟩, hit, hne⟩ := st
    have hel : e < s.heap.objs.size := Heap.lt_size he
    have hil : it < s.heap.objs.size := by obtain ⟨_, q, _⟩ := hit; exact Heap.lt_size q
    refine wpAny_pyNext_enum_itemD (draws_str (A := X.A.in1) (I.ok.hd hc) it z t ty hty) he hit hg hne (by simpa using hne) fun x h' tk hx ho hit' hT hsz hk => ?_
    obtain ⟨c, u, hcx, rfl⟩ := hx
    refine ⟨_, rfl, wpAny_letOwnedTupleGo_enum (s := { s with heap := h', toks := tk + 1 }) ho fun h'' he' sb => ?_⟩
    have hT2 : h''.get? s.heap.objs.size = some { cls := .type "tuple", data := .seq #[.int i tk, .str ⟨#[c]⟩ u] } := (sb.2 _ (Nat.ne_of_gt hel)).trans hT
    have new : ObjOk X.prog X.w (upd H s.heap.objs.size (.tup [.int (i : Nat), .str ⟨#[c]⟩])) h'' s.heap.objs.size (.tup [.int (i : Nat), .str ⟨#[c]⟩]) :=
      ⟨by show 2 ≤ sizeLine; decide, [.int i tk, .str ⟨#[c]⟩ u], .cons ⟨_, rfl⟩ (.cons ⟨_, rfl⟩ .nil), ⟨_, hT2, rfl, _, rfl⟩⟩
    have I1 : L2.Inv X pins σ (upd H s.heap.objs.size (.tup [.int (i : Nat), .str ⟨#[c]⟩])) { s with heap := h'', toks := tk + 1 } :=
      I.turnedNew (ch := [e, it]) (fun b ob hb q => (sb.2 b (fun z => hb (by simp [z]))).trans (hk b ob (fun z => hb (by simp [z])) (fun z => hb (by simp [z])) q)) hf (Nat.le_refl _) new
    refine ⟨.ref s.heap.objs.size, _, I1, rfl, ⟨_, c, hcx, rfl, I.hok.fresh (Nat.le_refl _), rfl⟩, ⟨⟨.str ⟨#[c]⟩ u, ?_⟩, ?_, hne⟩, fun b hb => ?_⟩
    · have e1 : ((i + 1 : Nat) : Int) = (i : Int) + 1 := by omega
      rw [e1]; exact he'
    · obtain ⟨o, ho2, r⟩ := hit'
      exact ⟨o, (sb.2 it (Ne.symm hne)).trans ho2, r⟩
    · have hb' : b < s.heap.objs.size := by
        have e' : b = e ∨ b = it := by simpa using hb
        rcases e' with z | z
        · rw [z]; exact hel
        · rw [z]; exact hil
      rw [upd_ne (Nat.ne_of_lt hb')]
      exact (hf b hb).1
  done := by
    intro X hP hw hK hc i pins s σ H E I hf st hg
    subst hP hw hK
    obtain ⟨⟨old, he⟩, hit, hne⟩ := st
    obtain ⟨f0, f1, f2, f3, f4, f5⟩ := hf it (by simp)
    have hg' : i = z.cps.size := hg
    rw [hg'] at hit he
    exact wpAny_pyNext_enum_endD (draws_str (A := X.A.in1) (I.ok.hd hc) it z t ty hty) he hit fun h' eb => ⟨rfl, I.turned (t' := s.toks) (fun b o hb q => eb b o hb q) f0 f1 f3 f4 f5⟩
  self := fun A i s Q E st h => let ⟨⟨_, he⟩, _⟩ := st; wpAny_pyIter_enum he h
def iEnumS (ta : TA) : TI := fun σ H R => ta σ H fun vs H1 => ∃ z, vs = [.str z] ∧ R (Ites z) H1
theorem pi_enumS {X : Cx} {e : Expr} {ta : TA} {p pos tpos : Pos} {elts : List Expr} {kk : Nat} (hg : Gl X "enumerate") (hm : X.mg "enumerate" = none) (ha : PA X [e] ta) (hs : starEach [e] X.env = [(false, eval e X.env)] := by rfl) :
    PI X (.Tuple elts kk tpos) (.Call (.Name "enumerate" p) [e] [] pos) (iEnumS ta) := by
  refine ⟨fun pins s σ H R I h => ?_⟩
  refine Call_ (ld_blt I hg hm boot_enumerate (PyProof.Rows.callWith_type1 (thn (ha.run pos pins s σ H _ I h) fun us s1 ⟨vs, H1, I1, r1, q1⟩ => ?_) hs rfl))
  obtain ⟨z, ex, q⟩ := q1
  subst ex
  cases r1 with
  | cons r rr =>
    cases rr
    obtain ⟨t, rfl⟩ := (show ∃ t, _ = Value.str z t from r)
    refine call_enumerate_str fun h' he hit hsz hk => wpAny_pyIter_enum he ?_
    have I2 : L2.Inv X pins σ H1 { s1 with heap := h' } := I1.kept (t' := s1.toks) hk
    have hty : strIterType z = "str_ascii_iterator" ∨ strIterType z = "str_iterator" := by
      unfold strIterType
      cases z.cps.all (· < 128)
      · exact .inr rfl
      · exact .inl rfl
    refine ⟨s1.heap.objs.size + 1, [s1.heap.objs.size + 1, s1.heap.objs.size], _, _, H1, rfl, I2, turn_enumS z t (strIterType z) hty (s1.heap.objs.size + 1) s1.heap.objs.size, ⟨⟨.none, he⟩, hit, Nat.succ_ne_self _⟩, fun b hb => ?_, q⟩
    have e' : b = s1.heap.objs.size + 1 ∨ b = s1.heap.objs.size := by simpa using hb
    have hle : s1.heap.objs.size ≤ b := by
      rcases e' with z | z
      · rw [z]; exact Nat.le_add_right _ _
      · rw [z]; exact Nat.le_refl _
    exact I1.fpOk hle (I1.hok.fresh hle)
theorem walk_enumS {z : Str} : Walk (Ites z) z.cps.size (fun _ => True) (fun i H v H' => ∃ T c, z.cps[i]? = some c ∧ v = .ref T ∧ H T = none ∧ H' = upd H T (.tup [.int (i : Nat), .str ⟨#[c]⟩])) :=
  ⟨fun _ _ hi _ => hi, fun _ _ => rfl, fun _ _ _ _ _ _ y => y⟩
/-- min of three numbers -/
theorem call_min3 {X : Cx} (hc : X.calm = true) : CallR X (.builtin "min") (fun xs H Q => ∃ a b c : Int, xs = [.int a, .int b, .int c] ∧ Q (.int (min (min a b) c)) H) := by
  intro pins s σ H xs us Q I r h
  obtain ⟨a, b, c, rfl, q⟩ := h
  refine call_min3Nu hc pins s σ H _ us Q I r ⟨.int a, .int b, .int c, .int (min (min a b) c), rfl, ?_, q⟩
  have two : ∀ a b : Int, nuMin2 (.int a) (.int b) = some (.int (min a b)) := fun a b => by
    show some (if decide (b < a) = true then V.int b else V.int a) = _
    by_cases h : b < a
    · rw [if_pos (decide_eq_true h), Int.min_eq_right (by omega)]
    · rw [if_neg (by simp [h]), Int.min_eq_left (by omega)]
  unfold nuMin3
  rw [two]
  exact two _ _
end MN
/-! require_word, require_prices, Prices.__contains__, require_two -/
namespace MN
open PySem PySem.Spec PyProof.Rows L2
/-- a word by its codes -/
def wS (u : List Nat) : Str := ⟨u.toArray⟩
theorem wS_len (u : List Nat) : (wS u).length = u.length := by simp [wS, Str.length]
theorem wS_cps (u : List Nat) : (wS u).cps.toList = u := rfl
theorem wS_inj {u v : List Nat} (h : wS u = wS v) : u = v := by
  have := congrArg (fun z : Str => z.cps.toList) h
  exact this
theorem wS_app (u v : List Nat) : wS u ++ wS v = wS (u ++ v) := by
  show (⟨u.toArray ++ v.toArray⟩ : Str) = ⟨(u ++ v).toArray⟩
  simp
theorem codes_sgn {zs : List Str} (h : ∀ z ∈ zs, ∃ c ∈ ("abcde" : Str).cps.toList, z = ⟨#[c]⟩) {c : Nat} (hc : c ∈ codesOf zs) : c ∈ ("abcde" : Str).cps.toList := by
  obtain ⟨d, hd, e⟩ := h _ ((mem_codes h).mp hc)
  have := nS_inj (x := some c) (y := some d) e
  cases this
  exact hd
section
variable {P : Program} {w : World} {K : PySem.W.Frag} {mg : Str → Option Value} {base : Heap} {Cp Cc : Addr}
def spReqWord : Sp := fun vs H Q _ => ∃ u : List Nat, vs = [.str (wS u)] ∧ (∀ c ∈ u, c ∈ ("abcde" : Str).cps.toList) ∧ u.length ≤ 1000 ∧ ∀ H', Same H H' → Q .non H'
/-! ### require_prices -/
def spReqPrices (Cp : Addr) : Sp := fun vs H Q _ => ∃ x dx ys ys2 g o qs, vs = [.ref x] ∧ PrAt Cp H x dx ys ys2 g o qs ∧ Q .non H
theorem sc_require_prices : FnScope ["value"] ["value"] (defScope (top 26)) := ⟨rfl, rfl, rfl, by decide +kernel, rfl, by decide +kernel, by decide +kernel⟩
theorem c_require_prices (A : At K mg "require_prices" (top 26)) (B : Blt mg) (PC : PrC K mg Cp Cc) : Cal P w K mg base 1 "require_prices" (spReqPrices Cp) := by
  refine cal_of A sc_require_prices (fun _ _ _ _ _ _ us hl => match us, hl with | [_], _ => rfl) (fun vs H Q E h => ?_) (fun _ cdv A outer s H vs Q E hr h => ?_)
  · obtain ⟨_, _, _, _, _, _, _, rfl, _⟩ := h; rfl
  · obtain ⟨x, dx, ys, ys2, g, o, qs, rfl, hP, hQ⟩ := h
    have GF : GlC mg "Prices" (.ref Cp) := ⟨_, PC.gp, rfl⟩
    refine ⟨_, pss_one (ps_if (pt_not (pt_val (pe_callB (SlX.call_isiSl (.ref Cp)) (by rfl) B.isinstance (by decide +kernel) (pa_cons (pv 0) (pa_cons (pe_gl (by rfl) GF) pa_nil))))) (pss_one ps_never) pss_nil), ?_⟩
    obtain ⟨PA, PB, PS, ws, hs, _⟩ := hP
    exact ⟨_, rfl, x, Cp, dx, ws, _, true, rfl, rfl, fun w e => e, .inr hs, PC.sp.sc, PC.si, PC.isP, _, rfl, iteF hQ⟩
/-! ### Prices.__contains__ -/
def spHas (Cp : Addr) : Sp := fun vs H Q _ => ∃ x dx ys ys2 g o qs z, vs = [.ref x, .str z] ∧ PrAt Cp H x dx ys ys2 g o qs ∧ PrN ys ys2 g o qs ∧ z ∈ ys ∧ Q (.bl true) H
theorem sc_has : FnScope ["self", "value"] ["self", "value"] (defScope (inClass (top 25) 14)) := ⟨rfl, rfl, rfl, by decide +kernel, rfl, by decide +kernel, by decide +kernel⟩
theorem f_has {f : Addr} {fd : FuncData} (PC : PrC K mg Cp Cc) (F : FunAt K "__contains__" "Prices.__contains__" (inClass (top 25) 14) [] f fd) (c_is_sign : Cal P w K mg base 1 "is_sign" (spIsSign K)) : FnOk P w K mg base CX0 2 f fd ["self", "value"] (spHas Cp) := by
  refine fnok_of F sc_has (fun vs H Q E h => ?_) (fun cdv A outer s H vs Q E hr h => ?_)
  · obtain ⟨_, _, _, _, _, _, _, _, rfl, _⟩ := h; rfl
  · obtain ⟨x, dx, ys, ys2, g, o, qs, z, rfl, hP, N, hz, hQ⟩ := h
    obtain ⟨p1, s1⟩ := PC.sp.s1
    refine ⟨_, pss_one (ps_ret (pe_and (pe_c c_is_sign hr (by decide) (by rfl) (pa_cons (pv 1) pa_nil)) (pe_one (pe_cmp (pc_din (hu_of hr) (pv 1) (SlX.pe_sl (pv 0))))))), ?_⟩
    obtain ⟨PA, PB, PS, ws, hs, w1, w0, w2, nAB, hA, hB, hS⟩ := hP
    refine ⟨_, rfl, _, rfl, .str (by rw [len_one (N.sg z hz)]; decide), _, rfl, ?_⟩
    rw [isSign_one (N.sg z hz)]
    refine iteT ⟨_, rfl, _, rfl, x, Cp, dx, p1, ws, 1, _, rfl, .inr hs, PC.sp.sc, s1, w1, PA, some (.int (g z)), rfl, .inl ⟨_, .inr z, .inl hA, rfl, (dkF_val N.nd g hz).symm⟩, hQ⟩
theorem r_has (PC : PrC K mg Cp Cc) (c_is_sign : Cal P w K mg base 1 "is_sign" (spIsSign K)) : ∃ g, PySem.W.findIn K (.ref Cp) "__contains__" = some (some (.ref g)) ∧ PySem.W.isFn K (.ref g) = true ∧ FnR P w K mg base CX0 2 g (fun vs H Q E => spHas Cp (vs ++ []) H Q E) := by
  obtain ⟨g, fd, h1, h2, F⟩ := PC.con
  have b := FunD.bindsN (ps := ["self", "value"]) F fun _ _ _ _ _ _ us hl => match us, hl with | [_, _], _ => rfl
  exact ⟨g, h1, h2, (f_has PC F c_is_sign).raw b .nil⟩
/-! ### require_two -/
def spReqTwo (Cp : Addr) : Sp := fun vs H Q _ => ∃ u v x dx ys ys2 g o qs, vs = [.str (wS u), .str (wS v), .ref x] ∧ PrAt Cp H x dx ys ys2 g o qs ∧ PrN ys ys2 g o qs ∧ (∀ c ∈ u, c ∈ codesOf ys) ∧ (∀ c ∈ v, c ∈ codesOf ys) ∧ u.length ≤ 200 ∧ v.length ≤ 200 ∧ ∀ H', Same H H' → Q .non H'
end
end MN
/-! costs_with, cost_table, distance -/
namespace MN
open PySem PySem.Spec PyProof.Rows L2
/-- the costs of a word (turned) to all beginnings of another one -/
def rowV (c : Nd → Nd → Int) (u v : List Nat) : Nat → List V := fun n => (List.range n).map fun j => V.int (Dc c u (v.take j).reverse)
theorem rowV_get {c : Nd → Nd → Int} {u v : List Nat} {n j : Nat} (h : j < n) : (rowV c u v n)[j]? = some (.int (Dc c u (v.take j).reverse)) := by
  unfold rowV
  rw [List.getElem?_map, List.getElem?_range h]; rfl
theorem rowV_len {c : Nd → Nd → Int} {u v : List Nat} {n : Nat} : (rowV c u v n).length = n := by simp [rowV]
theorem rowV_succ {c : Nd → Nd → Int} {u v : List Nat} {n : Nat} : rowV c u v (n + 1) = rowV c u v n ++ [.int (Dc c u (v.take n).reverse)] := by
  unfold rowV
  rw [List.range_succ, List.map_append]; rfl
theorem take_rev {v : List Nat} {j l : Nat} (h : v[j]? = some l) : (v.take (j + 1)).reverse = l :: (v.take j).reverse := by
  rw [List.take_add_one, h]; simp
theorem codeOf_sg (c : Nat) : codeOf (sgS c) = c := rfl
section
variable {P : Program} {w : World} {K : PySem.W.Frag} {mg : Str → Option Value} {base : Heap} {Cp Cc : Addr}
def spCostsWith (Cc : Addr) : Sp := fun vs H Q _ => ∃ q dq a s u v ys c, vs = [.ref q, .ref a, .str (sgS s), .str (wS v)] ∧ ClAt Cc H q dq ys c ∧ ys.Nodup ∧ (∀ x, c x x = 0) ∧ H a = some (.lst (rowV c u v (v.length + 1))) ∧ sgS s ∈ ys ∧ (∀ l ∈ v, sgS l ∈ ys) ∧ v.length ≤ 200 ∧
  ∀ r H', H r = none → Same H H' → H' r = some (.lst (rowV c (s :: u) v (v.length + 1))) → Q (.ref r) H'
/-! ### cost_table -/
def spCostTable (Cc : Addr) : Sp := fun vs H Q _ => ∃ q dq u v ys c, vs = [.ref q, .str (wS u), .str (wS v)] ∧ ClAt Cc H q dq ys c ∧ ys.Nodup ∧ (∀ x, c x x = 0) ∧ (∀ l ∈ u, sgS l ∈ ys) ∧ (∀ l ∈ v, sgS l ∈ ys) ∧ u.length ≤ 200 ∧ v.length ≤ 200 ∧
  ∀ t rs r H', Same H H' → H' t = some (.lst (rs ++ [.ref r])) → H' r = some (.lst (rowV c u.reverse v (v.length + 1))) → Q (.ref t) H'
/-! ### distance -/
def spDistance (Cp : Addr) : Sp := fun vs H Q _ => ∃ u v x dx ys ys2 g o qs, vs = [.str (wS u), .str (wS v), .ref x] ∧ PrAt Cp H x dx ys ys2 g o qs ∧ PrN ys ys2 g o qs ∧ (∀ c ∈ u, c ∈ codesOf ys) ∧ (∀ c ∈ v, c ∈ codesOf ys) ∧ u.length ≤ 200 ∧ v.length ≤ 200 ∧
  ∀ c H', Clo (codesOf ys) (rOf (codesOf ys) g o qs) c → Same H H' → Q (.int (Dc c u.reverse v.reverse)) H'
end
end MN
/-! Prices called by keywords; closed, put, out, swap of prices -/
namespace MN
open PySem PySem.Spec PyProof.Rows L2
section
variable {X : Cx} {CX : CXT} {k : Nat} {f C : Addr} {fd : FuncData} {ps ks : List Str} {sp : Sp} {E : XK} {x : Str} {p pos : Pos} {kws : List Keyword} {tk : TA} {g : List Value → List Value → List Value} {gV : List V → List V → List V}
/-- a class of the module, called by keywords alone -/
theorem pe_makeKG (M : Mk X.K C f) (F : FnOk X.prog X.w X.K X.mg X.base CX k f fd ps sp) (hr : Room (k + 1) X.A) (hg : Gl X x) (hm : X.mg x = some (.ref C)) (hb : KBn X.K fd ps 1 ks g gV) (hx : Passes CX X E) (hkw : PK X kws tk)
    (hall : (backToKw pos (keywordEach kws X.env)).all (·.1.isSome) = true := by rfl) (hks : (backToKw pos (keywordEach kws X.env)).filterMap (·.1) = ks := by rfl) (hdb : (x == ("__debug__" : Str)) = false := by decide)
    (hpl : ((backTo pos (starEach [] X.env)).any (·.1) || (backToKw pos (keywordEach kws X.env)).any (·.1.isNone)) = false := by rfl) :
    PE X (.Call (.Name x p) [] kws pos) (tMakeK C 0 ks.length sp gV E tNil tk) := by
  refine ⟨fun pins s σ H Q I h => ?_⟩
  refine wpAny_Call_Name_kw (ld_glob I hg hm ?_ hdb)
  refine PySem.W.callWith_KW0 (h₀ := X.base) I.ok.mod.kin M.kp hall ?_ hpl
  refine thn (hkw.run pos pins s σ _ _ I h) fun ws s2 ⟨zs, H2, I2, rz, l1, l2, q2⟩ => ⟨I2.kIn, ?_⟩
  rw [hks]
  exact run_makeK (us := []) (vs := []) M F hr hb hx I2 .nil rz rfl l2 q2
end
section
variable {P : Program} {w : World} {K : PySem.W.Frag} {mg : Str → Option Value} {base : Heap} {Cp Cc : Addr}
theorem kb_pinit {f : Addr} {fd : FuncData} (F : FunAt K "__init__" "Prices.__init__" (inClass (top 25) 1) [] f fd) : KBn K fd ["self", "put", "out", "swap"] 1 ["put", "out", "swap"] (fun us ws => us ++ ws) (fun us ws => us ++ ws) := by
  obtain ⟨oc, od, dV, kV, doc, pm, an, cdv, ct, osl, rfl, lk, hcd, hD, hK⟩ := F.ex
  rcases hD with ⟨_, rfl⟩ | ⟨e, _⟩
  · refine ⟨fun s us ws X l1 l2 => ?_, fun r1 r2 => r1.append r2⟩
    match us, ws, l1, l2 with
    | [_], [_, _, _], _, _ => exact .of_eq rfl
  · exact absurd rfl e
abbrev gC (c : Nd → Nd → Int) : Str → Int := fun z => c none (some (codeOf z))
abbrev oC (c : Nd → Nd → Int) : Str → Int := fun z => c (some (codeOf z)) none
abbrev sC (c : Nd → Nd → Int) : Str → Str → Int := fun a b => c (some (codeOf a)) (some (codeOf b))
theorem AllP.perm {ys : List Str} {h : Str → Str → Int} {qs qs' : List ((Str × Str) × Int)} (A : AllP ys h qs) (p : qs'.Perm qs) : AllP ys h qs' := ⟨(p.map _).nodup_iff.mpr A.nd, fun e => by rw [p.mem_iff]; exact A.iff e⟩
theorem AllP.permY {ys ys' : List Str} {h : Str → Str → Int} {qs : List ((Str × Str) × Int)} (A : AllP ys h qs) (p : ys'.Perm ys) : AllP ys' h qs := ⟨A.nd, fun e => by rw [p.mem_iff, p.mem_iff]; exact A.iff e⟩
/-- closed prices are good prices -/
theorem clo_good {ys ys2 : List Str} {g o : Str → Int} {qs qs' : List ((Str × Str) × Int)} {c : Nd → Nd → Int} (N : PrN ys ys2 g o qs) (C : Clo (codesOf ys) (rOf (codesOf ys) g o qs) c) (A : AllP ys (sC c) qs') : PrN ys ys (gC c) (oC c) qs' := by
  have inl : ∀ {z : Str}, z ∈ ys → InL (codesOf ys) (some (codeOf z)) := fun hz => InL.of (code_mem N.sg hz)
  have sgc : ∀ {z : Str}, z ∈ ys → sgS (codeOf z) = z := fun {z} hz => nS_code (N.sg z hz)
  have pg : ∀ z ∈ ys, 1 ≤ gC c z ∧ gC c z ≤ 9 := fun z hz => by
    refine ⟨C.pos _ _ InL.no (inl hz) (fun e => nomatch e), ?_⟩
    have h1 := C.le none (some (codeOf z)) (g z) InL.no (inl hz) (by show (if _ then _ else _) = _; rw [if_pos (code_mem N.sg hz), sgc hz])
    have h2 := (N.pg z hz).2
    show c none (some (codeOf z)) ≤ 9
    omega
  have po : ∀ z ∈ ys, 1 ≤ oC c z ∧ oC c z ≤ 9 := fun z hz => by
    refine ⟨C.pos _ _ (inl hz) InL.no (fun e => nomatch e), ?_⟩
    have h1 := C.le (some (codeOf z)) none (o z) (inl hz) InL.no (by show (if _ then _ else _) = _; rw [if_pos (code_mem N.sg hz), sgc hz])
    have h2 := (N.po z hz).2
    show c (some (codeOf z)) none ≤ 9
    omega
  refine ⟨N.sg, N.nd, N.pos, N.le, List.Perm.refl _, pg, po, A.nd, fun e he => ?_, ?_⟩
  · obtain ⟨h1, h2, h3, h4⟩ := (A.iff e).mp he
    refine ⟨h1, h2, h3, ?_, ?_⟩
    · rw [h4]
      exact C.pos _ _ (inl h1) (inl h2) fun q => h3 (by rw [← sgc h1, ← sgc h2, Option.some.inj q])
    · rw [h4]
      have := C.tri (some (codeOf e.1.1)) none (some (codeOf e.1.2)) (inl h1) InL.no (inl h2)
      have a1 := (po _ h1).2
      have a2 := (pg _ h2).2
      show c (some (codeOf e.1.1)) (some (codeOf e.1.2)) ≤ 18
      have a1' : c (some (codeOf e.1.1)) none ≤ 9 := a1
      have a2' : c none (some (codeOf e.1.2)) ≤ 9 := a2
      omega
  · have h1 := A.len
    have h2 : ys.length * ys.length ≤ 5 * 5 := Nat.mul_le_mul N.le N.le
    omega
/-- the prices of closed prices, by nodes -/
theorem rOf_clo {ys ys' : List Str} {qs' : List ((Str × Str) × Int)} {c : Nd → Nd → Int} (sg : ∀ z ∈ ys, ∃ c ∈ ("abcde" : Str).cps.toList, z = ⟨#[c]⟩) (pm : ys'.Perm ys) (A : AllP ys (sC c) qs') : ∀ x y, InL (codesOf ys) x → InL (codesOf ys) y → rOf (codesOf ys') (gC c) (oC c) qs' x y = if x = y then none else some (c x y) := by
  have mem : ∀ {a}, a ∈ codesOf ys → a ∈ codesOf ys' := fun h => (pm.map _).mem_iff.mpr h
  intro x y hx hy
  cases x with
  | none =>
    cases y with
    | none => simp [rOf]
    | some b =>
      show (if b ∈ codesOf ys' then some (c none (some (codeOf (sgS b)))) else none) = _
      rw [if_pos (mem (hy b rfl)), if_neg (fun e => nomatch e), codeOf_sg]
  | some a =>
    cases y with
    | none =>
      show (if a ∈ codesOf ys' then some (c (some (codeOf (sgS a))) none) else none) = _
      rw [if_pos (mem (hx a rfl)), if_neg (fun e => nomatch e), codeOf_sg]
    | some b =>
      show findP qs' (sgS a) (sgS b) = _
      by_cases e : a = b
      · subst e
        rw [if_pos rfl]
        cases q : findP qs' (sgS a) (sgS a) with
        | none => rfl
        | some p => exact absurd rfl ((A.iff _).mp ((findP_some A.nd).mp q)).2.2.1
      · rw [if_neg fun q => e (Option.some.inj q), A.find ((mem_codes sg).mp (hx a rfl)) ((mem_codes sg).mp (hy b rfl)) fun q => e (Option.some.inj (nS_inj (x := some a) (y := some b) q))]
        rfl
/-- closed prices, closed again -/
theorem clo_again {ys ys2 ys' : List Str} {g o : Str → Int} {qs qs' : List ((Str × Str) × Int)} {c c' : Nd → Nd → Int} (N : PrN ys ys2 g o qs) (C : Clo (codesOf ys) (rOf (codesOf ys) g o qs) c) (pm : ys'.Perm ys) (A : AllP ys (sC c) qs') (C' : Clo (codesOf ys') (rOf (codesOf ys') (gC c) (oC c) qs') c') : ∀ x y, InL (codesOf ys) x → InL (codesOf ys) y → c' x y = c x y :=
  C.same ((C'.perm fun a => ((pm.map _).mem_iff).symm).congr fun x y hx hy => (rOf_clo N.sg pm A x y hx hy).symm)
def spPClosed (Cp : Addr) : Sp := fun vs H Q _ => ∃ x dx ys ys2 g o qs, vs = [.ref x] ∧ PrAt Cp H x dx ys ys2 g o qs ∧ PrN ys ys2 g o qs ∧
  ∀ y dy ys' ys2' qs' c H', Same H H' → Clo (codesOf ys) (rOf (codesOf ys) g o qs) c → PrAt Cp H' y dy ys' ys2' (gC c) (oC c) qs' → PrN ys' ys2' (gC c) (oC c) qs' → ys'.Perm ys → AllP ys (sC c) qs' → Q (.ref y) H'
abbrev N_pclosed : List Str := ["self", "found"]
theorem sc_pclosed : FnScope N_pclosed ["self"] (defScope (inClass (top 25) 8)) := ⟨rfl, rfl, rfl, by decide +kernel, rfl, by decide +kernel, by decide +kernel⟩
theorem f_pclosed {f : Addr} {fd : FuncData} (PC : PrC K mg Cp Cc) (F : FunAt K "closed" "Prices.closed" (inClass (top 25) 8) [] f fd) (B : Blt mg) (c_are_prices : Cal P w K mg base 3 "are_prices" spAreP) (c_closed_of : Cal P w K mg base 3 "closed_of" (spClosedOf Cp Cc)) : FnOk P w K mg base CX0 6 f fd ["self"] (spPClosed Cp) := by
  obtain ⟨fi, fdi, M, Fi⟩ := PC.ip
  refine fnok_of F sc_pclosed (fun vs H Q E h => ?_) (fun cdv A outer s H vs Q E hr h => ?_)
  · obtain ⟨_, _, _, _, _, _, _, rfl, _⟩ := h; rfl
  · obtain ⟨x, dx, ys, ys2, g, o, qs, rfl, hP, N, hQ⟩ := h
    obtain ⟨p0, s0⟩ := PC.sc.s0
    obtain ⟨p1, s1⟩ := PC.sc.s1
    obtain ⟨p2, s2⟩ := PC.sc.s2
    refine ⟨_, pss_cons (ps_set (i := 1) sc_pclosed.nd rfl (Or.inl rfl) (pe_c c_closed_of hr (by decide) (by rfl) (pa_cons (pv 0) pa_nil)))
      (pss_one (ps_ret (pe_makeKG M (f_pinit (P := P) (w := w) (mg := mg) (base := base) PC.sp Fi B c_are_prices) (hr.mono (by decide)) (by rfl) PC.gp (kb_pinit Fi) pass0 (pk_cons (SlX.pe_sl (pv 1)) (pk_cons (SlX.pe_sl (pv 1)) (pk_cons (SlX.pe_sl (pv 1)) pk_nil)))))), ?_⟩
    refine ⟨_, rfl, x, dx, ys, ys2, g, o, qs, rfl, hP, N, fun q dq c H1 e1 _ _ CL hC => ?_⟩
    obtain ⟨qs1, AP, PA, PB, PS, ws, hs, w1, w0, w2, nAB, hA, hB, hS⟩ := hC
    refine ⟨_, rfl, q, Cc, dq, p1, ws, 1, _, rfl, .inr hs, PC.sc.sc, s1, w1, _, rfl, q, Cc, dq, p0, ws, 0, _, rfl, .inr hs, PC.sc.sc, s0, w0, _, rfl, q, Cc, dq, p2, ws, 2, _, rfl, .inr hs, PC.sc.sc, s2, w2, rfl, rfl, fun y dy hy hdy n => ?_⟩
    have nx : ∀ b u, H1 b = some u → b ≠ y ∧ b ≠ dy := fun b u e => ⟨ne_of_none e hy, ne_of_none e hdy⟩
    have up : ∀ b u, H1 b = some u → upd (upd H1 dy (.own y)) y (.ins Cp dy []) b = some u := fun b u e => by
      rw [upd_ne (nx b u e).1, upd_ne (nx b u e).2]; exact e
    refine ⟨y, dy, PA, PB, PS, ys, ys, gC c, oC c, qs1, rfl, upd_same, by rw [upd_ne n, upd_same], n, up _ _ hA, up _ _ hB, up _ _ hS, nAB, clo_good N CL AP, fun H2 ys' ys2' qs' k2 hP2 N2 pm _ pq => ⟨rfl, hQ y dy ys' ys2' qs' c H2 (fun b u z => ?_) CL hP2 N2 pm (AP.perm pq)⟩⟩
    have z1 := e1 _ _ z
    exact k2 b u (nx _ _ z1).1 (nx _ _ z1).2 (up _ _ z1)
theorem r_pclosed (PC : PrC K mg Cp Cc) (B : Blt mg) (c_are_prices : Cal P w K mg base 3 "are_prices" spAreP) (c_closed_of : Cal P w K mg base 3 "closed_of" (spClosedOf Cp Cc)) : ∃ g, Meth K Cp "closed" g ∧ FnR P w K mg base CX0 6 g (fun vs H Q E => spPClosed Cp (vs ++ []) H Q E) := by
  obtain ⟨g, fd, h1, F⟩ := PC.clo
  have b := FunD.bindsN (ps := ["self"]) F fun _ _ _ _ _ _ us hl => match us, hl with | [_], _ => rfl
  exact ⟨g, h1, (f_pclosed PC F B c_are_prices c_closed_of).raw b .nil⟩
end
end MN
/-! plain law: closed prices exist; rounds -/
namespace MN
open PySem PySem.Spec PyProof.Rows L2
theorem clo_exists {zs zs2 : List Str} {g o : Str → Int} {ps : List ((Str × Str) × Int)} (N : PrN zs zs2 g o ps) : ∃ c, Clo (codesOf zs) (rOf (codesOf zs) g o ps) c := by
  have rin : ∀ {x y p}, rOf (codesOf zs) g o ps x y = some p → InL (codesOf zs) x ∧ InL (codesOf zs) y ∧ x ≠ y := fun h => rOf_in N h
  have T0 : Tb (codesOf zs) (rOf (codesOf zs) g o ps) (fun _ => False) (rOf (codesOf zs) g o ps) := by
    refine ⟨fun x => ?_, fun x y t h => .one (rin h).1 (rin h).2.1 h, fun x y p _ _ h => ⟨p, h, Int.le_refl _⟩, fun m x y a b hm => hm.elim⟩
    cases e : rOf (codesOf zs) g o ps x x with
    | none => rfl
    | some p => exact absurd rfl (rin e).2.2
  have all : ∀ (l : List Nd) (M : Nd → Prop) (O : Nd → Nd → Option Int), Tb (codesOf zs) (rOf (codesOf zs) g o ps) M O → ∃ O', Tb (codesOf zs) (rOf (codesOf zs) g o ps) (fun z => M z ∨ z ∈ l) O' := by
    intro l
    induction l with
    | nil => intro M O T; exact ⟨O, T.dg, T.pa, T.le, fun m x y a b hm => T.tri m x y a b (by simpa using hm)⟩
    | cons m l ih =>
      intro M O T
      obtain ⟨O', T'⟩ := ih _ _ (T.phase (m := m) (rOf_pos N))
      exact ⟨O', T'.dg, T'.pa, T'.le, fun k x y a b hk => T'.tri k x y a b (by
        rcases hk with h | h
        · exact .inl (.inl h)
        · rcases List.mem_cons.mp h with h | h
          · exact .inl (.inr h)
          · exact .inr h)⟩
  obtain ⟨O, T⟩ := all (ndOf (codesOf zs)) _ _ T0
  have TL : Tb (codesOf zs) (rOf (codesOf zs) g o ps) (InL (codesOf zs)) O := ⟨T.dg, T.pa, T.le, fun m x y a b hm => T.tri m x y a b (.inr (mem_nd.mpr hm))⟩
  exact ⟨_, (TL.clo (rOf_pos N) rOf_all).1⟩
/-! ### rounds -/
section
variable {α : Type} {D : α → Int} {W : List α} {E : α → α → Int → Prop} {b : α}
/-- costs and single changes -/
structure Net (D : α → Int) (W : List α) (E : α → α → Int → Prop) (b : α) : Prop where
  b0 : D b = 0
  bW : b ∈ W
  nn : ∀ v ∈ W, 0 ≤ D v ∧ (D v = 0 → v = b)
  ed : ∀ u ∈ W, ∀ v s, E u v s → v ∈ W ∧ D v ≤ D u + s ∧ 1 ≤ s
  pre : ∀ v ∈ W, v ≠ b → ∃ u ∈ W, ∃ s, E u v s ∧ D u + s ≤ D v
/-- what was found is no less than the cost -/
def Snd (D : α → Int) (W : List α) (b : α) (f : α → Option Int) : Prop := f b = some 0 ∧ ∀ v x, f v = some x → v ∈ W ∧ D v ≤ x
def LeF (f f' : α → Option Int) : Prop := ∀ v x, f v = some x → ∃ x', f' v = some x' ∧ x' ≤ x
theorem LeF.refl {f : α → Option Int} : LeF f f := fun _ x h => ⟨x, h, Int.le_refl _⟩
theorem LeF.trans {f f1 f2 : α → Option Int} (a : LeF f f1) (c : LeF f1 f2) : LeF f f2 := fun v x h => by
  obtain ⟨y, h1, l1⟩ := a v x h
  obtain ⟨z, h2, l2⟩ := c v y h1
  exact ⟨z, h2, by omega⟩
def rank (D : α → Int) (W : List α) (v : α) : Nat := W.countP fun x => decide (D x < D v)
theorem countP_lt {p q : α → Bool} : ∀ {l : List α}, (∀ a, p a = true → q a = true) → (∃ a ∈ l, q a = true ∧ p a = false) → l.countP p < l.countP q
  | [], _, ⟨_, h, _⟩ => nomatch h
  | x :: l, h, ⟨a, ha, h1, h2⟩ => by
    have le : l.countP p ≤ l.countP q := List.countP_mono_left fun y _ hy => h y hy
    rw [List.countP_cons, List.countP_cons]
    rcases List.mem_cons.mp ha with rfl | ha
    · rw [h1, h2]; simp; omega
    · have ih := countP_lt h ⟨a, ha, h1, h2⟩
      by_cases hp : p x = true
      · rw [if_pos hp, if_pos (h x hp)]; omega
      · rw [if_neg hp]
        split <;> omega
theorem rank_lt {u v : α} (hu : u ∈ W) (h : D u < D v) : rank D W u < rank D W v :=
  countP_lt (fun a q => by simp at q ⊢; omega) ⟨u, hu, by simpa using h, by simp⟩
theorem rank_le (v : α) : rank D W v ≤ W.length := List.countP_le_length
/-- right up to a rank -/
def ExR (D : α → Int) (W : List α) (i : Nat) (f : α → Option Int) : Prop := ∀ v ∈ W, rank D W v ≤ i → f v = some (D v)
theorem ExR.zero (n : Net D W E b) {f : α → Option Int} (S : Snd D W b f) : ExR D W 0 f := fun v hv h => by
  have : ¬ D b < D v := fun q => by have := rank_lt n.bW q; omega
  have h1 := n.nn v hv
  have : v = b := h1.2 (by rw [n.b0] at this; omega)
  rw [this, S.1, n.b0]
/-- behind a round -/
theorem ExR.next (n : Net D W E b) {i : Nat} {f0 f : α → Option Int} (X : ExR D W i f0) (S : Snd D W b f) (R : ∀ w ∈ W, f0 w = some (D w) → ∀ v s, E w v s → ∃ y, f v = some y ∧ y ≤ D w + s) : ExR D W (i + 1) f := fun v hv h => by
  classical
  by_cases e : v = b
  · rw [e, S.1, n.b0]
  · obtain ⟨u, hu, s, he, hs⟩ := n.pre v hv e
    have h1 := (n.ed u hu v s he).2.2
    have := rank_lt (W := W) hu (show D u < D v by omega)
    obtain ⟨y, hy, ly⟩ := R u hu (X u hu (by omega)) v s he
    have := (S.2 v y hy).2
    rw [hy]
    congr 1
    omega
theorem ExR.all {i : Nat} {f : α → Option Int} (X : ExR D W i f) (h : W.length ≤ i) : ∀ v ∈ W, f v = some (D v) := fun v hv => X v hv (Nat.le_trans (rank_le v) h)
/-- nothing gets cheaper -/
theorem fixed (n : Net D W E b) {f : α → Option Int} (S : Snd D W b f) (R : ∀ w ∈ W, ∀ x, f w = some x → ∀ v s, E w v s → ∃ y, f v = some y ∧ y ≤ x + s) : ∀ v ∈ W, f v = some (D v) := by
  classical
  have key : ∀ (k : Nat) (v : α), v ∈ W → D v ≤ k → f v = some (D v) := by
    intro k
    induction k with
    | zero =>
      intro v hv h
      have h1 := n.nn v hv
      have : v = b := h1.2 (by omega)
      rw [this, S.1, n.b0]
    | succ k ih =>
      intro v hv h
      by_cases e : v = b
      · rw [e, S.1, n.b0]
      · obtain ⟨u, hu, s, he, hs⟩ := n.pre v hv e
        have h1 := (n.ed u hu v s he).2.2
        obtain ⟨y, hy, ly⟩ := R u hu _ (ih u hu (by omega)) v s he
        have := (S.2 v y hy).2
        rw [hy]
        congr 1
        omega
  intro v hv
  exact key (D v).toNat v hv (by have := (n.nn v hv).1; omega)
end
end MN
/-! priced; all words up to a length; slices of words -/
namespace MN
open PySem PySem.Spec PyProof.Rows L2
/-- a drawn table: the dicts of put, out and swap prices -/
structure TblAt (H : Hp) (t : Addr) (zs : List Str) (g o : Str → Int) (ps : List ((Str × Str) × Int)) (A B S : Addr) : Prop where
  t : H t = some (.lst [.ref A, .ref B, .ref S])
  a : H A = some (.dK (dkF zs g))
  b : H B = some (.dK (dkF zs o))
  s : H S = some (.dT (dtF ps))
theorem TblAt.same {H H' : Hp} {t A B S : Addr} {zs : List Str} {g o : Str → Int} {ps : List ((Str × Str) × Int)} (h : TblAt H t zs g o ps A B S) (e : Same H H') : TblAt H' t zs g o ps A B S := ⟨e _ _ h.t, e _ _ h.a, e _ _ h.b, e _ _ h.s⟩
theorem boot_list0 : bootBuiltins "list" = some (.type "list") := by decide +kernel
def wordsV (ws : List (List Nat)) : List V := ws.map fun u => V.str (wS u)
def lvlU (L : List Nat) : Nat → List (List Nat)
  | 0 => [[]]
  | n + 1 => (lvlU L n).flatMap fun u => L.map fun a => u ++ [a]
def allU (L : List Nat) (n : Nat) : List (List Nat) := (List.range (n + 1)).flatMap (lvlU L)
theorem mem_lvlU {L : List Nat} : ∀ {n : Nat} {u : List Nat}, u ∈ lvlU L n ↔ u.length = n ∧ ∀ a ∈ u, a ∈ L
  | 0, u => by
    simp only [lvlU, List.mem_singleton]
    constructor
    · rintro rfl; simp
    · rintro ⟨h, _⟩; exact List.eq_nil_of_length_eq_zero h
  | n + 1, u => by
    simp only [lvlU, List.mem_flatMap, List.mem_map]
    constructor
    · rintro ⟨v, hv, a, ha, rfl⟩
      obtain ⟨h1, h2⟩ := mem_lvlU.mp hv
      refine ⟨by simp [h1], fun b hb => ?_⟩
      rcases List.mem_append.mp hb with hb | hb
      · exact h2 b hb
      · rw [List.mem_singleton.mp hb]; exact ha
    · rintro ⟨h1, h2⟩
      have hne : u ≠ [] := fun e => by rw [e] at h1; simp at h1
      refine ⟨u.dropLast, mem_lvlU.mpr ⟨by simp [h1], fun a ha => h2 a (List.dropLast_subset _ ha)⟩, u.getLast hne, h2 _ (List.getLast_mem hne), List.dropLast_concat_getLast hne⟩
theorem mem_allU {L : List Nat} {n : Nat} {u : List Nat} : u ∈ allU L n ↔ u.length ≤ n ∧ ∀ a ∈ u, a ∈ L := by
  unfold allU
  rw [List.mem_flatMap]
  constructor
  · rintro ⟨k, hk, hu⟩
    have := List.mem_range.mp hk
    obtain ⟨h1, h2⟩ := mem_lvlU.mp hu
    exact ⟨by omega, h2⟩
  · rintro ⟨h1, h2⟩
    exact ⟨u.length, List.mem_range.mpr (by omega), mem_lvlU.mpr ⟨rfl, h2⟩⟩
theorem flatMap_const {α β : Type} {f : α → List β} {k : Nat} : ∀ {l : List α}, (∀ a ∈ l, (f a).length = k) → (l.flatMap f).length = l.length * k
  | [], _ => by simp
  | a :: l, h => by
    rw [List.flatMap_cons, List.length_append, h a List.mem_cons_self, flatMap_const fun b hb => h b (List.mem_cons_of_mem _ hb), List.length_cons, Nat.succ_mul]
    omega
theorem lvlU_len {L : List Nat} : ∀ n, (lvlU L n).length = L.length ^ n
  | 0 => rfl
  | n + 1 => by
    show ((lvlU L n).flatMap fun u => L.map fun a => u ++ [a]).length = _
    rw [flatMap_const (k := L.length) fun u _ => by simp, lvlU_len n, Nat.pow_succ]
theorem lvlU_le {L : List Nat} (h : L.length ≤ 3) {n : Nat} (hn : n ≤ 8) : (lvlU L n).length ≤ 6561 := by
  rw [lvlU_len]
  exact Nat.le_trans (Nat.pow_le_pow_left h n) (Nat.le_trans (Nat.pow_le_pow_right (by decide) hn) (by decide))
theorem allU_succ {L : List Nat} {n : Nat} : allU L (n + 1) = allU L n ++ lvlU L (n + 1) := by
  unfold allU
  rw [List.range_succ (n := n + 1), List.flatMap_append]
  simp
theorem allU_le {L : List Nat} (h : L.length ≤ 3) : ∀ {n : Nat}, n ≤ 8 → (allU L n).length ≤ (n + 1) * 6561
  | 0, _ => by simp [allU, lvlU]
  | n + 1, hn => by
    rw [allU_succ, List.length_append]
    have h1 := allU_le h (n := n) (by omega)
    have h2 := lvlU_le h hn
    omega
end MN
/-! _law_nearby -/
namespace MN
open PySem PySem.Spec PyProof.Rows L2
theorem cutTo (u : List Nat) {k : Nat} (h : k ≤ u.length) : cutS (wS u) none (some (k : Int)) = wS (u.take k) := by
  unfold cutS
  rw [HT.sIx_none, HT.sIx_nat, wS_len, wS_cps, Nat.min_eq_left h]
  rfl
theorem cutFrom (u : List Nat) {k : Nat} (h : k ≤ u.length) : cutS (wS u) (some (k : Int)) none = wS (u.drop k) := by
  unfold cutS
  rw [HT.sIx_none, HT.sIx_nat, wS_len, wS_cps, Nat.min_eq_left h, List.take_of_length_le (by simp)]
  rfl
theorem cutBehind (u : List Nat) {k : Nat} (h : k < u.length) : cutS (wS u) (some ((k : Int) + 1)) none = wS (u.drop (k + 1)) := cutFrom u (k := k + 1) h
/-- the pairs of words and prices that a list's tuples hold -/
abbrev PrsAt (H : Hp) (ts : List Addr) (es : List (List Nat × Int)) : Prop := Paired (fun t e => H t = some (.tup [.str (wS e.1), .int e.2])) ts es
def FAt (H : Hp) (F : Addr) (es : List (List Nat × Int)) : Prop := ∃ ts, H F = some (.lst (ts.map V.ref)) ∧ PrsAt H ts es
theorem FAt.same {H H' : Hp} {F : Addr} {es : List (List Nat × Int)} (h : FAt H F es) (e : Same H H') : FAt H' F es := by
  obtain ⟨ts, h1, h2⟩ := h
  exact ⟨ts, e _ _ h1, L2.Paired.mapP h2 fun _ _ q => e _ _ q⟩
theorem paired_snoc {α β : Type} {R : α → β → Prop} : ∀ {xs : List α} {ys : List β} {x : α} {y : β}, Paired R xs ys → R x y → Paired R (xs ++ [x]) (ys ++ [y])
  | _, _, _, _, .nil, h => .cons h .nil
  | _, _, _, _, .cons h t, q => .cons h (paired_snoc t q)
theorem FAt.add {H : Hp} {F T : Addr} {ts : List Addr} {es : List (List Nat × Int)} {w : List Nat} {n : Int} (h1 : H F = some (.lst (ts.map V.ref))) (h2 : PrsAt H ts es) (hT : H T = some (.tup [.str (wS w), .int n])) : FAt (upd H F (.lst (ts.map V.ref ++ [.ref T]))) F (es ++ [(w, n)]) := by
  have ne : ∀ {t : Addr} {xs : List V}, H t = some (.tup xs) → t ≠ F := fun h z => by rw [z, h1] at h; cases h
  refine ⟨ts ++ [T], by rw [upd_same, List.map_append]; rfl, paired_snoc (L2.Paired.mapP h2 fun t e q => ?_) ?_⟩
  · rw [upd_ne (ne q)]; exact q
  · rw [upd_ne (ne hT)]; exact hT
section
variable (L : List Nat) (g o : Str → Int) (ps : List ((Str × Str) × Int)) (u : List Nat) (most : Int)
/-- the changes at place k with the sign a put in or made -/
def RowIt (k a : Nat) (e : List Nat × Int) : Prop := ((u.length : Int) < most ∧ e = (u.take k ++ a :: u.drop k, g (sgS a))) ∨ ∃ x s, u[k]? = some x ∧ findP ps (sgS x) (sgS a) = some s ∧ e = (u.take k ++ a :: u.drop (k + 1), s)
def OutIt (k : Nat) (e : List Nat × Int) : Prop := ∃ x, u[k]? = some x ∧ e = (u.take k ++ u.drop (k + 1), o (sgS x))
def NearIt (k : Nat) (e : List Nat × Int) : Prop := (∃ a ∈ L, RowIt g ps u most k a e) ∨ OutIt o u k e
end
theorem valV_dtF {ps : List ((Str × Str) × Int)} (nd : (ps.map Prod.fst).Nodup) (x y : Str) : valV (dtF ps) [.inr x, .inr y] = (findP ps x y).map V.int := by
  cases e : findP ps x y with
  | some p => exact dtF_val nd ((findP_some nd).mp e)
  | none =>
    refine dtF_no fun q => ?_
    obtain ⟨z, hz, q⟩ := List.mem_map.mp q
    have := (findP_some (p := z.2) nd).mpr (show ((x, y), z.2) ∈ ps from by
      have : z = ((x, y), z.2) := Prod.ext q rfl
      rw [← this]; exact hz)
    rw [e] at this
    cases this
theorem rowStep {ys : List Str} {j a : Nat} {R : Nat → Prop} (h : ys[j]? = some (sgS a)) : (∃ j' a', j' < j + 1 ∧ ys[j']? = some (sgS a') ∧ R a') ↔ (∃ j' a', j' < j ∧ ys[j']? = some (sgS a') ∧ R a') ∨ R a := by
  constructor
  · rintro ⟨j', a', h1, h2, h3⟩
    by_cases e : j' = j
    · subst e
      rw [h] at h2
      have := nS_inj (x := some a) (y := some a') (Option.some.inj h2)
      cases this
      exact .inr h3
    · exact .inl ⟨j', a', by omega, h2, h3⟩
  · rintro (⟨j', a', h1, h2, h3⟩ | h3)
    · exact ⟨j', a', by omega, h2, h3⟩
    · exact ⟨j, a, by omega, h, h3⟩
section
variable {P : Program} {w : World} {K : PySem.W.Frag} {mg : Str → Option Value} {base : Heap} {Cp Cc : Addr}
def spNearby : Sp := fun vs H Q _ => ∃ t A B S zs g o ps u most, vs = [.ref t, .str (wS u), .int most] ∧ TblAt H t zs g o ps A B S ∧ PrN zs zs g o ps ∧ (∀ c ∈ u, c ∈ codesOf zs) ∧ u.length ≤ 8 ∧
  ∀ F es H', H F = none → Same H H' → FAt H' F es → es.length ≤ 1000 → (∀ e, e ∈ es ↔ ∃ k, k ≤ u.length ∧ NearIt (codesOf zs) g o ps u most k e) → Q (.ref F) H'
end
end MN
/-! plain law: single changes of words and their costs; rounds -/
namespace MN
open PySem PySem.Spec PyProof.Rows L2
/-- a change: one place, one node for another one -/
theorem chg_split {L : List Nat} {f : Nd → Nd → Option Int} {v w : List Nat} {s : Int} (h : Chg L f v w s) : ∃ pre suf y z, v = pre ++ y.toList ++ suf ∧ w = pre ++ z.toList ++ suf ∧ InL L y ∧ InL L z ∧ f y z = some s ∧ ¬ (y = none ∧ z = none) := by
  induction h with
  | @put y v s hy e => exact ⟨[], v, none, some y, rfl, rfl, InL.no, InL.of hy, e, fun q => by cases q.2⟩
  | @out y v s hy e => exact ⟨[], v, some y, none, rfl, rfl, InL.of hy, InL.no, e, fun q => by cases q.1⟩
  | @swp y z v s hy hz e => exact ⟨[], v, some y, some z, rfl, rfl, InL.of hy, InL.of hz, e, fun q => by cases q.1⟩
  | @cons y v w s _ ih =>
    obtain ⟨pre, suf, a, b, rfl, rfl, h⟩ := ih
    exact ⟨y :: pre, suf, a, b, rfl, rfl, h⟩
theorem chg_join {L : List Nat} {f : Nd → Nd → Option Int} {suf : List Nat} {y z : Nd} {s : Int} (hy : InL L y) (hz : InL L z) (e : f y z = some s) (n : ¬ (y = none ∧ z = none)) : ∀ pre : List Nat, Chg L f (pre ++ y.toList ++ suf) (pre ++ z.toList ++ suf) s
  | [] => by
    cases y with
    | none =>
      cases z with
      | none => exact absurd ⟨rfl, rfl⟩ n
      | some b => exact .put (hz b rfl) e
    | some a =>
      cases z with
      | none => exact .out (hy a rfl) e
      | some b => exact .swp (hy a rfl) (hz b rfl) e
  | a :: pre => .cons (chg_join hy hz e n pre)
theorem rev_node (x : Nd) : x.toList.reverse = x.toList := by cases x <;> rfl
section
variable {zs zs2 : List Str} {g o : Str → Int} {ps : List ((Str × Str) × Int)}
/-- what is near is one change away -/
theorem near_chg (N : PrN zs zs2 g o ps) {u : List Nat} (hu : ∀ c ∈ u, c ∈ codesOf zs) {most : Int} {k : Nat} (hk : k ≤ u.length) {e : List Nat × Int} (h : NearIt (codesOf zs) g o ps u most k e) : Chg (codesOf zs) (rOf (codesOf zs) g o ps) u.reverse e.1.reverse e.2 := by
  have key : ∀ (y z : Nd) (suf : List Nat), InL (codesOf zs) y → InL (codesOf zs) z → rOf (codesOf zs) g o ps y z = some e.2 → ¬ (y = none ∧ z = none) → u = u.take k ++ y.toList ++ suf → e.1 = u.take k ++ z.toList ++ suf → Chg (codesOf zs) (rOf (codesOf zs) g o ps) u.reverse e.1.reverse e.2 := fun y z suf hy hz he n e1 e2 => by
    have := chg_join (suf := (u.take k).reverse) hy hz he n suf.reverse
    rw [e2]
    conv => arg 3; rw [e1]
    simp only [List.reverse_append, rev_node, ← List.append_assoc]
    exact this
  rcases h with ⟨a, ha, ⟨_, rfl⟩ | ⟨x, s, hx, hs, rfl⟩⟩ | ⟨x, hx, rfl⟩
  · refine key none (some a) (u.drop k) InL.no (InL.of ha) (if_pos ha) (fun q => by cases q.2) ?_ ?_
    · simp
    · simp
  · have hx' := hu x (List.mem_of_getElem? hx)
    refine key (some x) (some a) (u.drop (k + 1)) (InL.of hx') (InL.of ha) hs (fun q => by cases q.1) ?_ ?_
    · conv => lhs; rw [← List.take_append_drop k u, List.drop_eq_getElem?_toList_append, hx]
      simp
    · simp
  · have hx' := hu x (List.mem_of_getElem? hx)
    refine key (some x) none (u.drop (k + 1)) (InL.of hx') InL.no (if_pos hx') (fun q => by cases q.1) ?_ ?_
    · conv => lhs; rw [← List.take_append_drop k u, List.drop_eq_getElem?_toList_append, hx]
      simp
    · simp
theorem near_word (N : PrN zs zs2 g o ps) {u : List Nat} (hu : ∀ c ∈ u, c ∈ codesOf zs) {n k : Nat} (hn : u.length ≤ n) (hk : k ≤ u.length) {e : List Nat × Int} (h : NearIt (codesOf zs) g o ps u n k e) : e.1.length ≤ n ∧ ∀ c ∈ e.1, c ∈ codesOf zs := by
  rcases h with ⟨a, ha, ⟨hm, rfl⟩ | ⟨x, s, hx, hs, rfl⟩⟩ | ⟨x, hx, rfl⟩
  · refine ⟨?_, fun c hc => ?_⟩
    · simp; omega
    · rcases List.mem_append.mp hc with hc | hc
      · exact hu c (List.mem_of_mem_take hc)
      · rcases List.mem_cons.mp hc with rfl | hc
        · exact ha
        · exact hu c (List.mem_of_mem_drop hc)
  · have kl := (List.getElem?_eq_some_iff.mp hx).1
    refine ⟨?_, fun c hc => ?_⟩
    · simp; omega
    · rcases List.mem_append.mp hc with hc | hc
      · exact hu c (List.mem_of_mem_take hc)
      · rcases List.mem_cons.mp hc with rfl | hc
        · exact ha
        · exact hu c (List.mem_of_mem_drop hc)
  · have kl := (List.getElem?_eq_some_iff.mp hx).1
    refine ⟨?_, fun c hc => ?_⟩
    · simp; omega
    · rcases List.mem_append.mp hc with hc | hc
      · exact hu c (List.mem_of_mem_take hc)
      · exact hu c (List.mem_of_mem_drop hc)
/-- what is one change away is near -/
theorem chg_near (N : PrN zs zs2 g o ps) {u v : List Nat} {s : Int} (h : Chg (codesOf zs) (rOf (codesOf zs) g o ps) u.reverse v.reverse s) {n : Nat} (hn : v.length ≤ n) : ∃ k, k ≤ u.length ∧ NearIt (codesOf zs) g o ps u n k (v, s) := by
  obtain ⟨pre, suf, y, z, h1, h2, hy, hz, he, nn⟩ := chg_split h
  have e1 : u = suf.reverse ++ (y.toList ++ pre.reverse) := by
    have := congrArg List.reverse h1
    simpa [rev_node] using this
  have e2 : v = suf.reverse ++ (z.toList ++ pre.reverse) := by
    have := congrArg List.reverse h2
    simpa [rev_node] using this
  generalize suf.reverse = A at e1 e2
  generalize pre.reverse = B at e1 e2
  subst e1
  subst e2
  refine ⟨A.length, by simp, ?_⟩
  have tk : ∀ X : List Nat, (A ++ X).take A.length = A := fun X => by simp
  have dr : ∀ X : List Nat, (A ++ X).drop A.length = X := fun X => by simp
  have dr1 : ∀ (x : Nat) (X : List Nat), (A ++ x :: X).drop (A.length + 1) = X := fun x X => by
    rw [← List.drop_drop, dr]; rfl
  have gx : ∀ (x : Nat) (X : List Nat), (A ++ x :: X)[A.length]? = some x := fun x X => by simp
  cases y with
  | none =>
    cases z with
    | none => exact absurd ⟨rfl, rfl⟩ nn
    | some b =>
      have hb := hz b rfl
      refine .inl ⟨b, hb, .inl ⟨?_, ?_⟩⟩
      · simp at hn ⊢; omega
      · have he' : (if b ∈ codesOf zs then some (g (sgS b)) else none) = some s := he
        rw [if_pos hb] at he'
        rw [tk, dr, Option.some.inj he']
        rfl
  | some a =>
    cases z with
    | none =>
      have ha := hy a rfl
      refine .inr ⟨a, gx a B, ?_⟩
      have he' : (if a ∈ codesOf zs then some (o (sgS a)) else none) = some s := he
      rw [if_pos ha] at he'
      show _ = (((A ++ a :: B).take A.length) ++ (A ++ a :: B).drop (A.length + 1), _)
      rw [tk, dr1, Option.some.inj he']
      rfl
    | some b =>
      have hb := hz b rfl
      refine .inl ⟨b, hb, .inr ⟨a, s, gx a B, he, ?_⟩⟩
      show _ = (((A ++ a :: B).take A.length) ++ b :: (A ++ a :: B).drop (A.length + 1), _)
      rw [tk, dr1]
      rfl
end
/-- the net of words -/
theorem net_words {zs zs2 : List Str} {g o : Str → Int} {ps : List ((Str × Str) × Int)} {c : Nd → Nd → Int} (N : PrN zs zs2 g o ps) (C : Clo (codesOf zs) (rOf (codesOf zs) g o ps) c) {n : Nat} {b : List Nat} (hb : b ∈ allU (codesOf zs) n) :
    Net (fun v => Dc c b.reverse v.reverse) (allU (codesOf zs) n) (fun u v s => ∃ k, k ≤ u.length ∧ NearIt (codesOf zs) g o ps u n k (v, s)) b := by
  have ov : ∀ {v : List Nat}, v ∈ allU (codesOf zs) n → ∀ a ∈ v.reverse, a ∈ codesOf zs := fun hv a ha => (mem_allU.mp hv).2 a (List.mem_reverse.mp ha)
  refine ⟨?_, hb, fun v hv => ?_, fun u hu v s he => ?_, fun v hv ne => ?_⟩
  · have h1 := Dc_self C b.reverse
    have h2 := (Dc_nn C b.reverse b.reverse (ov hb) (ov hb)).1
    show Dc c b.reverse b.reverse = 0
    omega
  · have h := Dc_nn C b.reverse v.reverse (ov hb) (ov hv)
    exact ⟨h.1, fun e => (List.reverse_inj.mp (h.2 e)).symm⟩
  · obtain ⟨k, hk, hn⟩ := he
    obtain ⟨l1, l2⟩ := mem_allU.mp hu
    have ch := near_chg N l2 hk hn
    refine ⟨mem_allU.mpr (near_word N l2 l1 hk hn), Dc_lip C ch b.reverse (ov hb), ?_⟩
    obtain ⟨_, _, y, z, _, _, _, _, e, _⟩ := chg_split ch
    exact rOf_pos N _ _ _ e
  · obtain ⟨w, s, h1, h2, h3, h4⟩ := Dc_pre C b.reverse v.reverse (ov hb) (ov hv) fun e => ne (List.reverse_inj.mp e).symm
    obtain ⟨lb, _⟩ := mem_allU.mp hb
    obtain ⟨lv, _⟩ := mem_allU.mp hv
    have hw : w.reverse ∈ allU (codesOf zs) n := mem_allU.mpr ⟨by
      rw [List.length_reverse]
      simp only [List.length_reverse] at h4
      omega, fun a ha => h2 a (List.mem_reverse.mp ha)⟩
    refine ⟨w.reverse, hw, s, chg_near N (by rw [List.reverse_reverse]; exact h1) lv, ?_⟩
    show Dc c b.reverse w.reverse.reverse + s ≤ _
    rw [List.reverse_reverse]
    exact h3
end MN
/-! _law_forced -/
namespace MN
open PySem PySem.Spec PyProof.Rows L2
/-- a dict from words to numbers -/
structure FM (W : List (List Nat)) (kvs : List (Key × V)) (f : List Nat → Option Int) : Prop where
  nd : (kvs.map (·.1)).Nodup
  ks : ∀ k ∈ kvs.map (·.1), ∃ v ∈ W, k = Sum.inr (wS v)
  vl : ∀ v, valV kvs (.inr (wS v)) = (f v).map V.int
theorem FM.put {W : List (List Nat)} {kvs : List (Key × V)} {f : List Nat → Option Int} (F : FM W kvs f) {v : List Nat} (hv : v ∈ W) (n : Int) : FM W (putK kvs (.inr (wS v)) (.int n)) (fun x => if x = v then some n else f x) := by
  refine ⟨?_, ?_, fun a => ?_⟩
  · rw [putK_keys]
    split
    · exact F.nd
    · rename_i h
      rw [List.nodup_append]
      refine ⟨F.nd, by simp, fun a ha b hb => ?_⟩
      rw [List.mem_singleton.mp hb]
      exact fun e => h (by rw [← e]; exact ha)
  · intro k hk
    rw [putK_keys] at hk
    split at hk
    · exact F.ks k hk
    · rcases List.mem_append.mp hk with hk | hk
      · exact F.ks k hk
      · exact ⟨v, hv, List.mem_singleton.mp hk⟩
  · rw [valV_put]
    by_cases e : a = v
    · rw [if_pos (by rw [e]), if_pos e]; rfl
    · rw [if_neg fun q => e (wS_inj (Sum.inr.inj q)), if_neg e]
      exact F.vl a
theorem FM.len {W : List (List Nat)} {kvs : List (Key × V)} {f : List Nat → Option Int} (F : FM W kvs f) : kvs.length ≤ W.length := by
  have h := len_sub (m := W.map fun v => (Sum.inr (wS v) : Key)) F.nd fun k hk => by
    obtain ⟨v, hv, rfl⟩ := F.ks k hk
    exact List.mem_map.mpr ⟨v, hv, rfl⟩
  rwa [List.length_map, List.length_map] at h
theorem merge_val {Pk : Key → V → Prop} : ∀ (kvs acc : List (Key × V)), (∀ k v, valV acc k = some v → Pk k v) → (∀ kv ∈ kvs, Pk kv.1 kv.2) → ∀ k v, valV (mergeK acc kvs) k = some v → Pk k v
  | [], _, h, _, k, v, q => h k v q
  | a :: kvs, acc, h, h2, k, v, q => by
    refine merge_val kvs (putK acc a.1 a.2) (fun k v e => ?_) (fun kv hk => h2 kv (List.mem_cons_of_mem _ hk)) k v q
    rw [valV_put] at e
    split at e
    · rename_i z
      cases e
      rw [z]
      exact h2 a List.mem_cons_self
    · exact h k v e
theorem merge_has : ∀ (kvs acc : List (Key × V)) (k : Key), ((∃ v, valV acc k = some v) ∨ k ∈ kvs.map (·.1)) → ∃ v, valV (mergeK acc kvs) k = some v
  | [], _, _, h => h.elim id fun q => nomatch q
  | a :: kvs, acc, k, h => by
    refine merge_has kvs (putK acc a.1 a.2) k ?_
    by_cases e : k = a.1
    · exact .inl ⟨a.2, by rw [valV_put, if_pos e]⟩
    · rcases h with ⟨v, h⟩ | h
      · exact .inl ⟨v, by rw [valV_put, if_neg e]; exact h⟩
      · rw [List.map_cons] at h
        rcases List.mem_cons.mp h with h | h
        · exact absurd h e
        · exact .inr h
section
variable {P : Program} {w : World} {K : PySem.W.Frag} {mg : Str → Option Value} {base : Heap} {Cp Cc : Addr}
def spForced (K : PySem.W.Frag) : Sp := fun vs H Q _ => ∃ t A B S zs g o ps c b n lw, vs = [.ref t, .str (wS b), .ref lw, .int (n : Nat)] ∧ TblAt H t zs g o ps A B S ∧ PrN zs zs g o ps ∧ zs.length ≤ 3 ∧ n ≤ 8 ∧ Clo (codesOf zs) (rOf (codesOf zs) g o ps) c ∧ SqL K H lw (wordsV (allU (codesOf zs) n)) ∧ b ∈ allU (codesOf zs) n ∧
  ∀ Fd kvs H', H Fd = none → Same H H' → H' Fd = some (.dK kvs) → (∀ v ∈ allU (codesOf zs) n, valV kvs (.inr (wS v)) = some (.int (Dc c b.reverse v.reverse))) → Q (.ref Fd) H'
end
end MN
/-! closed prices of permuted prices; costs of single signs -/
namespace MN
open PySem PySem.Spec PyProof.Rows L2
theorem rOf_perm {zs ys : List Str} {g o : Str → Int} {ps qs : List ((Str × Str) × Int)} (sn : (ps.map Prod.fst).Nodup) (pm : ys.Perm zs) (pq : qs.Perm ps) (x y : Nd) : rOf (codesOf ys) g o qs x y = rOf (codesOf zs) g o ps x y := by
  have mem : ∀ a, a ∈ codesOf ys ↔ a ∈ codesOf zs := fun a => (pm.map _).mem_iff
  cases x with
  | none =>
    cases y with
    | none => rfl
    | some b =>
      show (if b ∈ codesOf ys then _ else _) = (if b ∈ codesOf zs then _ else _)
      by_cases h : b ∈ codesOf zs
      · rw [if_pos h, if_pos ((mem b).mpr h)]
      · rw [if_neg h, if_neg fun q => h ((mem b).mp q)]
  | some a =>
    cases y with
    | none =>
      show (if a ∈ codesOf ys then _ else _) = (if a ∈ codesOf zs then _ else _)
      by_cases h : a ∈ codesOf zs
      · rw [if_pos h, if_pos ((mem a).mpr h)]
      · rw [if_neg h, if_neg fun q => h ((mem a).mp q)]
    | some b => exact findP_perm sn pq _ _
theorem clo_conv {zs ys : List Str} {g o : Str → Int} {ps qs : List ((Str × Str) × Int)} {c : Nd → Nd → Int} (sn : (ps.map Prod.fst).Nodup) (pm : ys.Perm zs) (pq : qs.Perm ps) (C : Clo (codesOf ys) (rOf (codesOf ys) g o qs) c) : Clo (codesOf zs) (rOf (codesOf zs) g o ps) c :=
  (C.perm fun a => ((pm.map _).mem_iff).symm).congr fun x y _ _ => (rOf_perm sn pm pq x y).symm
/-- costs of single signs -/
theorem Dc_put1 {c : Nd → Nd → Int} (b : Nat) : Dc c [] [b] = c none (some b) := by simp [Dc]
theorem Dc_out1 {c : Nd → Nd → Int} (a : Nat) : Dc c [a] [] = c (some a) none := by simp [Dc]
theorem Dc_swp1 {L : List Nat} {r : Nd → Nd → Option Int} {c : Nd → Nd → Int} (C : Clo L r c) {a b : Nat} (ha : a ∈ L) (hb : b ∈ L) : Dc c [a] [b] = c (some a) (some b) := by
  have h := C.tri (some a) none (some b) (InL.of ha) InL.no (InL.of hb)
  simp only [Dc]
  omega
end MN
/-! sorted(d.items()) -/
namespace MN
open PySem PySem.Spec PyProof.Rows L2
section
variable {X : Cx} {pins : List (Addr × Obj)} {σ : L2.St} {H : Hp} {s : Shared}
/-- the tuples of a dict's items, laid -/
theorem items_over {es : Array DictEntry} {as : List Addr} {h' : Heap} {tk : Nat} {ps : List (V × V)} (I : L2.Inv X pins σ H s) (hk : ∀ b o, s.heap.get? b = some o → h'.get? b = some o) (hl : as.length = es.size) (hG : PySem.W.DilG es s.heap.objs.size h' as)
    (lp : ps.length = es.size) (hp : ∀ (i : Nat) (p : V × V), ps[i]? = some p → ∃ e, es[i]? = some e ∧ RelV p.1 e.key ∧ RelV p.2 e.val) :
    ∃ H' : Hp, L2.Inv X pins σ H' { s with heap := h', toks := tk } ∧ Same H H' ∧ (∀ (i : Nat) (a : Addr) (p : V × V), as[i]? = some a → ps[i]? = some p → H' a = some (.tup [p.1, p.2])) ∧ (∀ a ∈ as, H a = none) ∧ (∀ b, h'.objs.size ≤ b → H' b = none) := by
  have nd : as.Nodup := List.Pairwise.imp (fun {a b} (h : a < b) => Nat.ne_of_lt h) hG.rise
  let os : List HO := ps.map fun p => HO.tup [p.1, p.2]
  let l : List (Addr × HO) := as.zip os
  have lT : ∀ (i : Nat) (a : Addr) (p : V × V), as[i]? = some a → ps[i]? = some p → l.lookup a = some (.tup [p.1, p.2]) := fun i a p h0 h1 => lookup_zip nd h0 (by show (ps.map _)[i]? = _; rw [List.getElem?_map, h1]; rfl)
  have lOf : ∀ b o, l.lookup b = some o → ∃ (i : Nat) (p : V × V), as[i]? = some b ∧ ps[i]? = some p ∧ o = .tup [p.1, p.2] := fun b o h => by
    obtain ⟨i, h1, h2⟩ := zip_of h
    obtain ⟨p, h3, h4⟩ := Option.map_eq_some_iff.mp ((List.getElem?_map ..).symm.trans h2)
    exact ⟨i, p, h1, h3, h4.symm⟩
  have fresh : ∀ b o, l.lookup b = some o → s.heap.objs.size ≤ b := fun b o h => by
    obtain ⟨i, p, h1, _⟩ := lOf b o h
    exact Nat.le_of_lt (hG.above b (List.mem_of_getElem? h1))
  have J : L2.Inv X pins σ (overH H l) { s with heap := h', toks := tk } := by
    refine Inv_over I hk fresh fun b o h => ?_
    obtain ⟨i, p, h1, h2, rfl⟩ := lOf b o h
    obtain ⟨hj, e2⟩ := hG.pairs i b h1
    obtain ⟨e, e1, r1, r2⟩ := hp i p h2
    have e3 : es[i] = e := by
      have := Array.getElem?_eq_getElem hj
      rw [e1] at this
      exact (Option.some.inj this).symm
    rw [e3] at e2
    exact ⟨by show 2 ≤ sizeLine; decide, [e.key, e.val], .cons r1 (.cons r2 .nil), ⟨_, e2, rfl, _, rfl⟩⟩
  refine ⟨overH H l, J, fun b u e => ?_, fun i a p h1 h2 => over_in (lT i a p h1 h2), fun a ha => I.hok.fresh (Nat.le_of_lt (hG.above a ha)), fun b hb => J.hok.fresh hb⟩
  cases q : l.lookup b with
  | none => rw [over_out q]; exact e
  | some o => rw [I.hok.fresh (fresh b o q)] at e; cases e
theorem each_of {α β : Type} {R : α → β → Prop} : ∀ {xs : List α} {ys : List β}, xs.length = ys.length → (∀ (i : Nat) (x : α) (y : β), xs[i]? = some x → ys[i]? = some y → R x y) → PySem.W.EachIs R xs ys
  | [], [], _, _ => .nil
  | x :: xs, y :: ys, hl, h => .cons (h 0 x y rfl rfl) (each_of (by simpa using hl) fun i x y a b => h (i + 1) x y a b)
  | [], _ :: _, hl, _ => by simp at hl
  | _ :: _, [], hl, _ => by simp at hl
theorem each_map_eq {β : Type} {f : β → Value} : ∀ {out : List Value} {bs : List β}, PySem.W.EachIs (fun v b => v = f b) out bs → out = bs.map f
  | _, _, .nil => rfl
  | _, _, .cons h t => by rw [h, each_map_eq t]; rfl
/-- what sorted(d.items()) gives: new tuples, in the order of the data -/
def SrtQ {κ : Type} (f : κ → V × V) (dat : κ → PyData) (kvs : List κ) (H1 : Hp) (Q : VK) : Prop := ∀ (H' : Hp) (p : Addr) (ts : List Addr), Same H1 H' → H1 p = none → H' p = some (.lst (ts.map V.ref)) → Paired (fun (t : Addr) (k : κ) => H' t = some (.tup [(f k).1, (f k).2])) ts (kvs.mergeSort (PySem.W.dataLe false dat)) → Q (.ref p) H'
theorem call_sortedI {κ : Type} {f : κ → V × V} {dat : κ → PyData} {kvs : List κ} {r d : Addr} {es : Array DictEntry} {ep : Nat} {Q : VK} (I : L2.Inv X pins σ H s) (hcalm : X.calm = true) (hu : X.A.units + 64 < cLine) (hv : s.heap.IsItemsView r d) (hm : DT.Raw s.heap d es ep) (hn : es.size ≤ sizeLine)
    (lk : kvs.length = es.size) (hp : ∀ (i : Nat) (k : κ), kvs[i]? = some k → ∃ e, es[i]? = some e ∧ RelV (f k).1 e.key ∧ RelV (f k).2 e.val)
    (hd : ∀ k ∈ kvs, ∀ (H' : Hp) (a : Addr), Same H H' → H' a = some (.tup [(f k).1, (f k).2]) → Dp X.K H' (.ref a) (dat k)) (hal : PySem.W.AllAlike (kvs.map dat)) (hs : PySem.W.Sortable (kvs.map dat)) (hdp : ∀ k ∈ kvs, (dat k).depth ≤ 8) (q : SrtQ f dat kvs H Q) :
    wpAny (model X.prog X.w) X.A (call (.builtin "sorted") [.ref r]) (EP X pins σ Q) X.xe s := by
  refine PySem.Calls.call_function_entry kind_sorted plain_sorted entry_sorted (args_sorted1 _) ?_
  unfold Builtin.«sorted»
  refine wpAny_bind (m := checkCount "sorted" 1 1 _) (wpAny_pure ?_)
  refine wpAny_bind (PySem.W.dil_collect (A := X.A.in1) (I.ok.hd hcalm) hv hm hn fun h' tk as hk hl hG => ?_)
  have lps : (kvs.map f).length = es.size := by rw [List.length_map]; exact lk
  obtain ⟨H1, J, up, at_, fr, fr1⟩ := items_over (tk := tk) (ps := kvs.map f) I hk hl hG lps fun i p h => by
    rw [List.getElem?_map] at h
    obtain ⟨k, h1, rfl⟩ := Option.map_eq_some_iff.mp h
    exact hp i k h1
  have lak : as.length = kvs.length := by omega
  refine wpAny_bind (wpAny_newList ?_ (by rw [List.length_map, hl]; exact hn))
  let bs : List (Addr × κ) := as.zip kvs
  let vs : List Value := as.map Value.ref
  have lvb : vs.length = bs.length := by show (as.map _).length = (as.zip kvs).length; rw [List.length_map, List.length_zip, lak, Nat.min_self]
  have bsAt : ∀ (i : Nat) (b : Addr × κ), bs[i]? = some b → as[i]? = some b.1 ∧ kvs[i]? = some b.2 := fun i b h => List.getElem?_zip_eq_some.mp h
  have vsAt : ∀ (i : Nat) (v : Value) (b : Addr × κ), vs[i]? = some v → bs[i]? = some b → v = .ref b.1 := fun i v b h1 h2 => by
    have h1' : (as.map Value.ref)[i]? = some v := h1
    rw [List.getElem?_map, (bsAt i b h2).1] at h1'
    exact (Option.some.inj h1').symm
  have tupAt : ∀ (i : Nat) (b : Addr × κ), bs[i]? = some b → H1 b.1 = some (.tup [(f b.2).1, (f b.2).2]) := fun i b h => at_ i b.1 (f b.2) (bsAt i b h).1 (by rw [List.getElem?_map, (bsAt i b h).2]; rfl)
  have bsM : ∀ b ∈ bs, ∃ i : Nat, bs[i]? = some b := fun b hb => List.mem_iff_getElem?.mp hb
  have bm : bs.map (fun b => dat b.2) = kvs.map dat := by
    show (as.zip kvs).map (dat ∘ Prod.snd) = _
    rw [← List.map_map, List.map_snd_zip (by omega)]
  have rd : ∀ (i : Nat) (v : Value) (b : Addr × κ), vs[i]? = some v → bs[i]? = some b → ∃ aa, Reads h' v (dat b.2) aa := fun i v b h1 h2 => by
    have := vsAt i v b h1 h2
    subst this
    exact Dp.reads J (dat b.2) (.ref b.1) _ (hd b.2 (List.mem_of_getElem? (bsAt i b h2).2) H1 b.1 up (tupAt i b h2)) rfl
  let N := h'.objs.size
  have hN : (h'.push { cls := .type "list", data := .seq vs.toArray }).get? N = some (seqObj "list" vs.toArray 0) := Heap.get?_push_size _ rfl
  have old : ∀ b o, h'.get? b = some o → (PySem.W.sortingHeap (h'.push { cls := .type "list", data := .seq vs.toArray }) N vs).get? b = some o := fun b o e => PySem.W.sortingHeap_old (Nat.ne_of_lt (Heap.lt_size e)) (Heap.get?_push_of_some _ e)
  have er' : PySem.W.EachIs (fun v (b : Addr × κ) => ∃ aa, Reads (PySem.W.sortingHeap (h'.push { cls := .type "list", data := .seq vs.toArray }) N vs) v (dat b.2) aa) vs bs := each_of lvb fun i v b h1 h2 => by
    obtain ⟨aa, r⟩ := rd i v b h1 h2
    exact ⟨aa, PyProof.Rows.Reads.keeps old r⟩
  have hu2 : ∀ b, b ∈ bs → X.A.in1.in1.units + (dat b.2).depth < cLine := fun b hb => by
    obtain ⟨i, hi⟩ := bsM b hb
    have := hdp b.2 (List.mem_of_getElem? (bsAt i b hi).2)
    show X.A.units + 1 + 1 + _ < _
    omega
  have sv := PySem.W.sortVals_data (h' := PySem.W.sortingHeap (h'.push { cls := .type "list", data := .seq vs.toArray }) N vs) (R := fun v (b : Addr × κ) => v = .ref b.1) (enc := fun b : Addr × κ => dat b.2) false (each_of lvb fun i v b h1 h2 => vsAt i v b h1 h2) er' (by rw [bm]; exact hal)
  have ev := each_map_eq (f := fun b : Addr × κ => Value.ref b.1) sv
  have SA := PySem.W.SortsAt.data (prog := X.prog) (w := X.w) (A := X.A.in1.in1) (s := { s with heap := PySem.W.sortingHeap (h'.push { cls := .type "list", data := .seq vs.toArray }) N vs, toks := tk }) (PySem.W.each_map (R := fun v d => ∃ as, Reads (PySem.W.sortingHeap (h'.push { cls := .type "list", data := .seq vs.toArray }) N vs) v d as) (fun b : Addr × κ => dat b.2) er') (by rw [bm]; exact hal) (by rw [bm]; exact hs) (PySem.W.bound_map hu2)
  refine wpAny_bind (wpAny_holding (wpAny_call_entry PyProof.Rows.slot_list_sort ⟨_, hN, rfl⟩ PyProof.Rows.entry_list_sort (PySem.W.list_sort_vals (s := { s with heap := h'.push { cls := .type "list", data := .seq vs.toArray }, toks := tk }) hN SA (by show (as.map _).length ≤ _; rw [List.length_map, hl]; exact hn) ?_)))
  refine ⟨_, rfl, wpAny_pure ⟨_, rfl, ?_⟩⟩
  let ms : List (Addr × κ) := bs.mergeSort (PySem.W.dataLe false fun b => dat b.2)
  have msM : ∀ b ∈ ms, ∃ i : Nat, bs[i]? = some b := fun b hb => bsM b ((List.mergeSort_perm ..).mem_iff.mp hb)
  show EP X pins σ Q (.ref N) { s with heap := sortedHeap (h'.push { cls := .type "list", data := .seq vs.toArray }) N vs (PySem.W.sortVals _ false vs vs).toArray, toks := tk }
  rw [ev]
  obtain ⟨c, hc⟩ := sortedHeap_at (out := (ms.map fun b => Value.ref b.1).toArray) hN
  have lN : ∀ b (o : HO), ([(N, HO.lst (ms.map fun b => V.ref b.1))] : List (Addr × HO)).lookup b = some o → b = N ∧ o = .lst (ms.map fun b => V.ref b.1) := fun b o h => by
    rw [List.lookup_cons] at h
    by_cases e : b = N
    · subst e
      rw [beq_self_eq_true] at h
      exact ⟨rfl, (Option.some.inj h).symm⟩
    · rw [beq_eq_false_iff_ne.mpr e] at h
      cases h
  have lms : ms.length = es.size := by show (bs.mergeSort _).length = _; rw [List.length_mergeSort, ← lvb]; show (as.map _).length = _; rw [List.length_map, hl]
  have I4 := Inv_over (tk := tk) (h' := sortedHeap (h'.push { cls := .type "list", data := .seq vs.toArray }) N vs (ms.map fun b => Value.ref b.1).toArray) (l := [(N, HO.lst (ms.map fun b => V.ref b.1))]) J (fun b o e => (sortedHeap_old (Nat.ne_of_lt (Heap.lt_size e)) (by rw [Heap.size_push]; exact Nat.lt_succ_of_lt (Heap.lt_size e))).trans (Heap.get?_push_of_some _ e)) (fun b o h => by
    obtain ⟨rfl, _⟩ := lN b o h
    exact Nat.le_refl _) (fun b o h => by
    obtain ⟨rfl, rfl⟩ := lN b o h
    refine ⟨by rw [List.length_map, lms]; exact hn, ms.map fun b => Value.ref b.1, c, ?_, hc⟩
    generalize ms = l
    induction l with
    | nil => exact .nil
    | cons b l ih => exact .cons rfl ih)
  have up4 : Same H1 (overH H1 [(N, HO.lst (ms.map fun b => V.ref b.1))]) := fun b u e => by
    cases z : ([(N, HO.lst (ms.map fun b => V.ref b.1))] : List (Addr × HO)).lookup b with
    | none => rw [over_out z]; exact e
    | some o =>
      obtain ⟨rfl, _⟩ := lN b o z
      rw [fr1 N (Nat.le_refl _)] at e
      cases e
  have hN0 : H N = none := by
    cases e : H N with
    | none => rfl
    | some o =>
      have := up _ _ e
      rw [fr1 N (Nat.le_refl _)] at this
      cases this
  refine ⟨.ref N, _, I4, rfl, q _ N (ms.map Prod.fst) (up.trans up4) hN0 (over_in (by rw [List.map_map]; exact List.lookup_cons_self)) ?_⟩
  have e2 : kvs.mergeSort (PySem.W.dataLe false dat) = ms.map Prod.snd := by
    have h1 : (as.zip kvs).map Prod.snd = kvs := List.map_snd_zip (by omega)
    conv => lhs; rw [← h1]
    exact (List.map_mergeSort (f := Prod.snd) (l := as.zip kvs) (r := PySem.W.dataLe false fun b : Addr × κ => dat b.2) (s := PySem.W.dataLe false dat) (fun a _ b _ => rfl)).symm
  rw [e2]
  have key : ∀ b ∈ ms, overH H1 [(N, HO.lst (ms.map fun b => V.ref b.1))] b.1 = some (.tup [(f b.2).1, (f b.2).2]) := fun b hb => by
    obtain ⟨i, hi⟩ := msM b hb
    exact up4 _ _ (tupAt i b hi)
  generalize overH H1 [(N, HO.lst (ms.map fun b => V.ref b.1))] = H4 at key
  generalize ms = l at key
  induction l with
  | nil => exact .nil
  | cons b l ih => exact .cons (key b List.mem_cons_self) (ih fun c hc => key c (List.mem_cons_of_mem _ hc))
end
end MN
/-! sorted(d.items()): rules; the prices' dicts -/
namespace MN
open PySem PySem.Spec PyProof.Rows L2
def ViewO (r d : Addr) : HO := .ext fun h => h.IsItemsView r d
section
variable {X : Cx} {e : Expr} {te : TE} {apos cpos : Pos}
def tItems (te : TE) : TE := fun σ H Q => te σ H fun x H1 => ∃ d, x = .ref d ∧ ((∃ kvs, H1 d = some (.dK kvs)) ∨ ∃ kvs, H1 d = some (.dT kvs)) ∧ ∀ r, H1 r = none → Q (.ref r) (upd H1 r (ViewO r d))
theorem view_laid {pins : List (Addr × Obj)} {σ : L2.St} {H : Hp} {s : Shared} {d : Addr} (I : L2.Inv X pins σ H s) : L2.Inv X pins σ (upd H s.heap.objs.size (ViewO s.heap.objs.size d)) { s with heap := s.heap.push { cls := .type "dict_items", data := .fields #[.ref d] } } := by
  have hg : (s.heap.push { cls := .type "dict_items", data := .fields #[.ref d] }).get? s.heap.objs.size = some { cls := .type "dict_items", data := .fields #[.ref d] } := Heap.get?_push_size _ rfl
  refine I.laid (t' := s.toks) (fun b o q => Heap.get?_push_of_some _ q) (Nat.le_refl _) ⟨⟨_, hg, rfl, rfl⟩, ⟨_, hg⟩, fun h1 h2 ⟨o, ho, x⟩ k => ⟨o, k o ho, x⟩⟩
theorem pe_items (he : PE X e te) (hbase : attributeBase e "items" X.env (eval e X.env) = eval e X.env := by rfl) (hline : (apos.endLine == cpos.line) = true := by rfl) : PE X (.Call (.Attribute e "items" apos) [] [] cpos) (tItems te) := by
  refine ⟨fun pins s σ H Q I hq => ?_⟩
  refine wpAny_Call_method (T := "dict") (id := "dict.items") hbase rfl hline F.plainAttrs_dict F.slot_dict_items F.type_dict_items (thn (he.run pins s σ H _ I hq) fun u s1 ⟨x, H1, I1, rx, d, ex, hd, q⟩ => ?_)
  subst ex
  obtain rfl : u = Value.ref d := rx
  have go : ∀ Q' : VK, (∀ r, H1 r = none → Q' (.ref r) (upd H1 r (ViewO r d))) → EP X pins σ Q' (.ref s1.heap.objs.size) { s1 with heap := s1.heap.push { cls := .type "dict_items", data := .fields #[.ref d] } } := fun Q' q => ⟨.ref _, _, view_laid (d := d) I1, rfl, q _ (I1.hok.fresh (Nat.le_refl _))⟩
  rcases hd with ⟨kvs, hd⟩ | ⟨kvs, hd⟩
  · obtain ⟨hz, hs0, vs, kv, hdo⟩ := I1.hok d _ hd
    refine ⟨hdo.typeIs, hdo.mapOf.noDict, ?_⟩
    show wpAny _ _ (callWith cpos (.builtin "dict.items") [.ref d] [] []) _ X.xe s1
    refine method_meetsIn F.slot_dict_items F.entry_dict_items rfl (PySem.evalArgs_none ⟨rfl, hdo.typeIs, F.args_dict_items_1 _, _, meets_dict_items (mixKind X.prog X.w) d hs0, ⟨vs, hdo⟩, ?_⟩)
    exact go _ q
  · obtain ⟨z, hs0, xs, rel, o, es, ep, ho, hx, hdat, hes, his, hnd⟩ := dt_of I1.hok hd
    have raw : DT.Raw s1.heap d es ep := ⟨o, ho, hx, hdat⟩
    refine ⟨raw.typeIs, dictOfH_noDict (knd := tupleKind (mixKind X.prog X.w)) ⟨o, es, ep, ho, hx, hdat, hes, his, hnd⟩, ?_⟩
    show wpAny _ _ (callWith cpos (.builtin "dict.items") [.ref d] [] []) _ X.xe s1
    refine Calls.callWith_builtin rfl (PySem.evalArgs_none (DT.callItems hs0 raw ?_))
    exact go _ q
end
/-! ### the call -/
theorem paired_map_r {α β γ : Type} {F : α → γ → Prop} (h : β → γ) : ∀ {xs : List α} {ys : List β}, Paired (fun a b => F a (h b)) xs ys → Paired F xs (ys.map h)
  | _, _, .nil => .nil
  | _, _, .cons a b => .cons a (paired_map_r h b)
def rSortK : List V → Hp → VK → Prop := fun vs H Q => ∃ (r d : Addr) (zs : List Str) (g : Str → Int), vs = [.ref r] ∧ H r = some (ViewO r d) ∧ H d = some (.dK (dkF zs g)) ∧ zs.length ≤ 1000 ∧
  SrtQ (fun z : Str => (V.str z, V.int (g z))) (fun z => .tuple [.str z, .int (g z)]) zs H Q
def rSortT : List V → Hp → VK → Prop := fun vs H Q => ∃ (r d : Addr) (ps : List ((Str × Str) × Int)), vs = [.ref r] ∧ H r = some (ViewO r d) ∧ H d = some (.dT (dtF ps)) ∧ ps.length ≤ 1000 ∧
  ∀ (H' : Hp) (p : Addr) (ts : List Addr), Same H H' → H p = none → H' p = some (.lst (ts.map V.ref)) →
    Paired (fun (t : Addr) (e : (Str × Str) × Int) => ∃ q, H' t = some (.tup [.ref q, .int e.2]) ∧ H' q = some (.tup [.str e.1.1, .str e.1.2])) ts (ps.mergeSort (PySem.W.dataLe false fun e => .tuple [.tuple [.str e.1.1, .str e.1.2], .int e.2])) → Q (.ref p) H'
section
variable {X : Cx}
theorem cr_sortedK (hc : X.calm = true) (hu : X.A.units + 64 < cLine) : CallR X (.builtin "sorted") rSortK := by
  intro pins s σ H vs us Q I r h
  obtain ⟨r0, d, zs, g, rfl, hr, hd, hl, q⟩ := h
  obtain ⟨u, rfl, rx⟩ := vals1 r
  cases rx
  obtain ⟨hz, hs0, ws, kv, o, es, ep, ho, hx, hdat, hko, hpr, hnd⟩ := I.hok d _ hd
  have hv : s.heap.IsItemsView r0 d := (I.hok r0 _ hr).1
  have big : 1000 ≤ sizeLine := by decide
  have le : es.size = ws.length := by rw [← Array.length_toList]; exact hpr.length
  have lw : (dkF zs g).length = ws.length := Paired.length kv
  have lz : (dkF zs g).length = zs.length := by simp [dkF]
  refine call_sortedI (kvs := zs) (es := es) (ep := ep) I hc hu hv ⟨o, ho, hx, hdat⟩ (Nat.le_trans (by omega) big) (by omega) (fun i z hi => ?_) (fun z hz H' a e h => .tup (.inl (.inl h)) (.cons (.str _) (.cons (.int _) .nil))) ?_ ?_ (fun z _ => by simp [PyData.depth, PyData.depthAll]) q
  · have h1 : (dkF zs g)[i]? = some (Sum.inr z, V.int (g z)) := by unfold dkF; rw [List.getElem?_map, hi]; rfl
    obtain ⟨w0, hw, e1, e2⟩ := LiI.paired_get kv h1
    have hi2 : i < es.size := by
      have := (List.getElem?_eq_some_iff.mp hw).1
      omega
    have he : es.toList[i]? = some es[i] := by rw [Array.getElem?_toList]; exact Array.getElem?_eq_getElem hi2
    obtain ⟨k1, k2⟩ := hpr.get? he (show ws[i]? = some (w0.1, w0.2) from hw)
    refine ⟨es[i], Array.getElem?_eq_getElem hi2, ?_, ?_⟩
    · rw [← e1] at k1
      exact relV_key (k := Sum.inr z) k1
    · rw [k2]; exact e2
  · intro a ha b hb
    obtain ⟨x, _, rfl⟩ := List.mem_map.mp ha
    obtain ⟨y, _, rfl⟩ := List.mem_map.mp hb
    rfl
  · exact .inl fun a ha => by
      obtain ⟨x, _, rfl⟩ := List.mem_map.mp ha
      exact ⟨_, _, rfl⟩
theorem cr_sortedT (hc : X.calm = true) (hu : X.A.units + 64 < cLine) : CallR X (.builtin "sorted") rSortT := by
  intro pins s σ H vs us Q I r h
  obtain ⟨r0, d, ps, rfl, hr, hd, hl, q⟩ := h
  obtain ⟨u, rfl, rx⟩ := vals1 r
  cases rx
  obtain ⟨hz, hs0, xs, rel, o, es, ep, ho, hx, hdat, hes, his, hnd⟩ := dt_of I.hok hd
  have hv : s.heap.IsItemsView r0 d := (I.hok r0 _ hr).1
  have big : 1000 ≤ sizeLine := by decide
  have le : es.size = xs.length := size_of_entries hes
  have lx : (dtF ps).length = xs.length := Paired.length rel
  have lp : (dtF ps).length = ps.length := by simp [dtF]
  let kvs : List (((Str × Str) × Int) × Addr) := ps.zip (xs.map fun x => x.2.1)
  have kl : kvs.length = ps.length := by show (ps.zip _).length = _; rw [List.length_zip, List.length_map]; omega
  have kAt : ∀ (i : Nat) (k : ((Str × Str) × Int) × Addr), kvs[i]? = some k → ps[i]? = some k.1 ∧ ∃ x, xs[i]? = some x ∧ x.2.1 = k.2 := fun i k h => by
    obtain ⟨h1, h2⟩ := List.getElem?_zip_eq_some.mp h
    rw [List.getElem?_map] at h2
    obtain ⟨x, h3, h4⟩ := Option.map_eq_some_iff.mp h2
    exact ⟨h1, x, h3, h4⟩
  have rAt : ∀ (i : Nat) (k : ((Str × Str) × Int) × Addr), kvs[i]? = some k → H k.2 = some (.tup [.str k.1.1.1, .str k.1.1.2]) ∧ ∃ x, xs[i]? = some x ∧ x.2.1 = k.2 ∧ RelV (.int k.1.2) x.2.2 := fun i k h => by
    obtain ⟨h1, x, h2, h3⟩ := kAt i k h
    have h4 : (dtF ps)[i]? = some ([Sum.inr k.1.1.1, Sum.inr k.1.1.2], V.int k.1.2) := by unfold dtF; rw [List.getElem?_map, h1]; rfl
    obtain ⟨x', hx1, r1, r2, r3⟩ := LiI.paired_get rel h4
    rw [h2] at hx1
    cases hx1
    rw [h3] at r2
    exact ⟨r2, x, h2, h3, r3⟩
  have kM : ∀ k ∈ kvs, H k.2 = some (.tup [.str k.1.1.1, .str k.1.1.2]) := fun k hk => by
    obtain ⟨i, hi⟩ := List.mem_iff_getElem?.mp hk
    exact (rAt i k hi).1
  refine call_sortedI (f := fun k => (V.ref k.2, V.int k.1.2)) (dat := fun k => .tuple [.tuple [.str k.1.1.1, .str k.1.1.2], .int k.1.2]) (kvs := kvs) (es := es) (ep := ep) I hc hu hv ⟨o, ho, hx, hdat⟩ (Nat.le_trans (by omega) big) (by omega) (fun i k hi => ?_) (fun k hk H' a e h => .tup (.inl (.inl h)) (.cons (.tup (.inl (.inl (e _ _ (kM k hk)))) (.cons (.str _) (.cons (.str _) .nil))) (.cons (.int _) .nil))) ?_ ?_ (fun z _ => by simp [PyData.depth, PyData.depthAll]) fun H' p ts e hp hpl pr => q H' p ts e hp hpl ?_
  · obtain ⟨_, x, h2, h3, h4⟩ := rAt i k hi
    refine ⟨entryOfKey (tupleKind (mixKind X.prog X.w)) x, by rw [entry_at hes, h2]; rfl, ?_, h4⟩
    show RelV (V.ref k.2) (Value.ref x.2.1)
    rw [h3]; rfl
  · intro a ha b hb
    obtain ⟨x, _, rfl⟩ := List.mem_map.mp ha
    obtain ⟨y, _, rfl⟩ := List.mem_map.mp hb
    rfl
  · exact .inl fun a ha => by
      obtain ⟨x, _, rfl⟩ := List.mem_map.mp ha
      exact ⟨_, _, rfl⟩
  · have e1 : ps = kvs.map Prod.fst := (List.map_fst_zip (by rw [List.length_map]; omega)).symm
    rw [e1, show (kvs.map Prod.fst).mergeSort (PySem.W.dataLe false fun e : (Str × Str) × Int => .tuple [.tuple [.str e.1.1, .str e.1.2], .int e.2]) = (kvs.mergeSort (PySem.W.dataLe false fun k : ((Str × Str) × Int) × Addr => .tuple [.tuple [.str k.1.1.1, .str k.1.1.2], .int k.1.2])).map Prod.fst from (List.map_mergeSort (f := Prod.fst) (l := kvs) (r := PySem.W.dataLe false fun k : ((Str × Str) × Int) × Addr => .tuple [.tuple [.str k.1.1.1, .str k.1.1.2], .int k.1.2]) (s := PySem.W.dataLe false fun e : (Str × Str) × Int => .tuple [.tuple [.str e.1.1, .str e.1.2], .int e.2]) (fun a _ b _ => rfl)).symm]
    refine paired_map_r Prod.fst ?_
    have km : ∀ k ∈ kvs.mergeSort (PySem.W.dataLe false fun k : ((Str × Str) × Int) × Addr => .tuple [.tuple [.str k.1.1.1, .str k.1.1.2], .int k.1.2]), k ∈ kvs := fun k hk => (List.mergeSort_perm ..).mem_iff.mp hk
    revert pr
    generalize kvs.mergeSort _ = l at km
    intro pr
    clear hpl
    induction pr with
    | nil => exact .nil
    | cons h t ih => exact .cons ⟨_, h, e _ _ (kM _ (km _ List.mem_cons_self))⟩ (ih fun k hk => km k (List.mem_cons_of_mem _ hk))
end
end MN
/-! == of dicts: keys texts or pairs of texts, values numbers -/
namespace MN
open PySem PySem.Spec PyProof.Rows L2 PySem.Calls
section
variable {prog : Program} {w : World} {K : Type} [DecidableEq K] {knd : HeapKind prog w K} {A : Around} {E : Value → Shared → Prop} {s : Shared}
def valH (kb : List (K × Addr × Value)) (k : K) : Option Value := (kb.find? fun x => decide (x.1 = k)).map (·.2.2)
inductive HitsH (prog : Program) (w : World) (A : Around) (s : Shared) (kb : List (K × Addr × Value)) : List (K × Addr × Value) → Bool → Prop
  | nil : HitsH prog w A s kb [] true
  | miss {x : K × Addr × Value} {r : List (K × Addr × Value)} : valH kb x.1 = none → HitsH prog w A s kb (x :: r) false
  | hit {x : K × Addr × Value} {y : Value} {r : List (K × Addr × Value)} {e b : Bool} : valH kb x.1 = some y → SeqAt.EqP prog w A s x.2.2 y e → HitsH prog w A s kb r b → HitsH prog w A s kb (x :: r) (e && b)
theorem HitsH.inv {kb : List (K × Addr × Value)} {x : K × Addr × Value} {r : List (K × Addr × Value)} {b : Bool} (h : HitsH prog w A s kb (x :: r) b) :
    (valH kb x.1 = none ∧ b = false) ∨ ∃ y e b', valH kb x.1 = some y ∧ SeqAt.EqP prog w A s x.2.2 y e ∧ HitsH prog w A s kb r b' ∧ b = (e && b') := by
  cases h with
  | miss hn => exact .inl ⟨hn, rfl⟩
  | hit hy he hr => exact .inr ⟨_, _, _, hy, he, hr, rfl⟩
theorem valH_at {kb : List (K × Addr × Value)} (nd : (kb.map (·.1)).Nodup) {k : K} {j : Nat} {p : Addr × Value} (h : kb[j]? = some (k, p)) : valH kb k = some p.2 := by
  unfold valH
  induction kb generalizing j with
  | nil => simp at h
  | cons x kb ih =>
    rw [List.map_cons, List.nodup_cons] at nd
    cases j with
    | zero =>
      cases h
      rw [List.find?_cons_of_pos (by simp)]; rfl
    | succ j =>
      have h : kb[j]? = some (k, p) := h
      have hk : k ∈ kb.map (·.1) := List.mem_map.mpr ⟨_, List.mem_of_getElem? h, rfl⟩
      rw [List.find?_cons_of_neg (by simp; exact fun e => nd.1 (by rw [e]; exact hk))]
      exact ih nd.2 h
theorem valH_no {kb : List (K × Addr × Value)} {k : K} (h : ∀ (j : Nat) (p : Addr × Value), kb[j]? ≠ some (k, p)) : valH kb k = none := by
  unfold valH
  cases e : kb.find? fun x => decide (x.1 = k) with
  | none => rfl
  | some x =>
    have h1 := List.find?_some e
    have h2 := List.mem_of_find?_eq_some e
    obtain ⟨j, hj⟩ := List.mem_iff_getElem?.mp h2
    have h1 : x.1 = k := of_decide_eq_true h1
    exact absurd (hj.trans (by rw [← h1])) (h j x.2)
theorem samePairsH {nm : String} {a b : Addr} {ka kb : List (K × Addr × Value)} {r : Bool} {Q : Bool → Shared → Prop} (ha : (a == sysModules) = false) (hb : (b == sysModules) = false) (hu : knd.room A)
    (da : s.heap.DictOfH knd a ka) (db : s.heap.DictOfH knd b kb) (hits : ka.length = kb.length → HitsH prog w A s kb ka r) (h : Q (ka.length == kb.length && r) s) :
    wpAny (model prog w) A (Builtin.Dict.samePairs nm a b) Q E s := by
  obtain ⟨oa, es, ep, hoa, _, hda, hea, hia, _⟩ := da
  obtain ⟨ob, es', ep', hob, _, hdb, heb, hib, hnb⟩ := db
  have hla : ka.length = es.size := (size_of_entries hea).symm
  have hlb : kb.length = es'.size := (size_of_entries heb).symm
  rw [hla, hlb] at h
  unfold Builtin.Dict.samePairs Builtin.Dict.showsAll
  rw [if_neg (show ¬ (a == sysModules) = true by rw [ha]; exact Bool.false_ne_true), if_neg (show ¬ (b == sysModules) = true by rw [hb]; exact Bool.false_ne_true)]
  refine wpAny_bind (wpAny_pure (wpAny_bind (wpAny_pure ?_)))
  refine wpAny_bind (wpAny_dictEntries hoa hda ?_)
  dsimp only
  refine wpAny_bind (wpAny_dictEntries hob hdb ?_)
  by_cases hsz : es.size = es'.size
  case neg =>
    rw [if_pos (by simpa using hsz)]
    have hbf : (es.size == es'.size) = false := by simpa using hsz
    rw [hbf, Bool.false_and] at h
    exact wpAny_bind (wpAny_rule (wpAny_pure h))
  case pos =>
    have h' : Q r s := by simpa [hsz] using h
    have hits' := hits (by rw [hla, hlb]; exact hsz)
    rw [if_neg (by rw [hsz]; simp)]
    refine wpAny_bind (wpAny_dictEpoch hoa hda ?_)
    refine wpAny_bind ?_
    rw [Std.Legacy.Range.forIn_eq_forIn_range']
    simp only [Std.Legacy.Range.size, Nat.sub_zero, Nat.add_sub_cancel, Nat.div_one]
    refine wpAny_forIn_list _
      (fun rest q s' => s' = s ∧ q = (none, ()) ∧ ∃ i, rest = List.range' i (es.size - i) ∧ i ≤ es.size ∧ HitsH prog w A s kb (ka.drop i) r)
      _ ?_ ?_ _ _ ⟨rfl, rfl, 0, by simp, Nat.zero_le _, hits'⟩
    · rintro x rest q s' ⟨rfl, rfl, i, hr, hi, hpre⟩
      have hlt : i < es.size := by
        rcases Nat.lt_or_ge i es.size with h | h
        · exact h
        · rw [Nat.sub_eq_zero_of_le h] at hr; simp at hr
      obtain ⟨rfl, hrest⟩ : x = i ∧ rest = List.range' (i + 1) (es.size - (i + 1)) := by
        have e : es.size - i = (es.size - (i + 1)) + 1 := by omega
        rw [e, List.range'_succ] at hr
        injection hr with h1 h2
        exact ⟨h1, h2⟩
      refine wpAny_bind (wpAny_dictEntries hoa hda ?_)
      rw [Array.getElem?_eq_getElem hlt]
      have hlt' : x < ka.length := by rw [hla]; exact hlt
      have hdrop : ka.drop x = ka[x] :: ka.drop (x + 1) := List.drop_eq_getElem_cons hlt'
      have hent : es[x] = entryOfKey knd ka[x] := by
        have := entry_at hea x
        rw [Array.getElem?_eq_getElem hlt, List.getElem?_eq_getElem hlt'] at this
        exact Option.some.inj this
      rw [hdrop] at hpre
      show wpAny _ _ (holding [es[x].key, es[x].val] _ >>= _) _ _ _
      rw [hent]
      have hkey := hia ka[x] (List.getElem_mem _)
      refine wpAny_bind (wpAny_holding (wpAny_bind (wpAny_dictFind_heap hu hkey hob hdb heb hib hnb (fun hno => ?_) (fun j p hj => ?_))))
      · have hn := valH_no hno
        rcases hpre.inv with ⟨_, er⟩ | ⟨y, _, _, hy, _⟩
        · rw [er] at h'
          refine wpAny_pure ?_
          show wpAny _ _ (if (!false) = true then _ else _) _ _ _
          rw [if_pos (by decide)]
          exact wpAny_pure (wpAny_pure h')
        · rw [hn] at hy; exact nomatch hy
      · have hv' := valH_at hnb hj
        have hjlt : j < es'.size := by
          have := (List.getElem?_eq_some_iff.mp hj).1
          omega
        have hej : es'[j] = entryOfKey knd (ka[x].1, p) := by
          have := entry_at heb j
          rw [Array.getElem?_eq_getElem hjlt, hj] at this
          exact Option.some.inj this
        refine wpAny_bind (wpAny_dictEntries hob hdb ?_)
        rw [Array.getElem?_eq_getElem hjlt]
        rcases hpre.inv with ⟨hn, _⟩ | ⟨y, e, b', hy, he, hrr, er⟩
        · rw [hv'] at hn; exact nomatch hn
        · have ey : p.2 = y := Option.some.inj (hv'.symm.trans hy)
          rw [← ey] at he
          show wpAny _ _ (holding [es'[j].val] _) _ _ _
          rw [hej]
          refine wpAny_holding (he _ _ ?_)
          cases e with
          | false =>
            rw [er, Bool.false_and] at h'
            show wpAny _ _ (if (!false) = true then _ else _) _ _ _
            rw [if_pos (by decide)]
            exact wpAny_pure (wpAny_pure h')
          | true =>
            rw [Bool.true_and] at er
            rw [← er] at hrr
            show wpAny _ _ (if (!true) = true then _ else _) _ _ _
            rw [if_neg (by decide)]
            refine wpAny_bind (wpAny_dictEpoch hoa hda ?_)
            rw [if_neg (by simp)]
            exact wpAny_pure ⟨rfl, rfl, x + 1, hrest, hlt, hrr⟩
    · rintro q s' ⟨rfl, rfl, i, hr, hi, hpre⟩
      have hin : i = es.size := by
        rcases Nat.lt_or_ge i es.size with h | h
        · have e : es.size - i = (es.size - (i + 1)) + 1 := by omega
          rw [e, List.range'_succ] at hr; exact nomatch hr
        · exact Nat.le_antisymm hi h
      refine wpAny_pure ?_
      rw [hin, ← hla, List.drop_length] at hpre
      cases hpre
      exact h'
end
end MN
/-! == of dicts with numbers as values: rules -/
namespace MN
open PySem PySem.Spec PyProof.Rows L2
/-- the two dicts are equal -/
def eqKv {κ : Type} [DecidableEq κ] (ks ls : List (κ × Int)) : Bool := ks.length == ls.length && ks.all fun p => decide (((ls.find? fun x => decide (x.1 = p.1)).map (·.2)) = some p.2)
def intKv {κ : Type} (ks : List (κ × Int)) : List (κ × V) := ks.map fun p => (p.1, V.int p.2)
theorem valV_int {κ : Type} [DecidableEq κ] (ls : List (κ × Int)) (k : κ) : valV (intKv ls) k = ((ls.find? fun x => decide (x.1 = k)).map (·.2)).map V.int := by
  unfold valV intKv
  induction ls with
  | nil => rfl
  | cons p ls ih =>
    rw [List.map_cons]
    by_cases h : p.1 = k
    · rw [List.find?_cons_of_pos (by simpa using h), List.find?_cons_of_pos (by simpa using h)]; rfl
    · rw [List.find?_cons_of_neg (by simpa using h), List.find?_cons_of_neg (by simpa using h)]; exact ih
theorem hitsK {P : Program} {w : World} {A : Around} {s : Shared} {ls : List (Key × Int)} {vb : List (Key × Value)} (rb : KV (intKv ls) vb) : ∀ {ks : List (Key × Int)} {va : List (Key × Value)}, KV (intKv ks) va →
    PySem.W.KeqHitsP P w A s vb va (ks.all fun p => decide (((ls.find? fun x => decide (x.1 = p.1)).map (·.2)) = some p.2))
  | [], _, ra => by cases ra; exact .nil
  | p :: ks, _, ra => by
    cases ra with
    | @cons _ q _ qs h t =>
      obtain ⟨h1, u, h2⟩ := h
      obtain ⟨key, v⟩ := q
      have h1 : p.1 = key := h1
      have h2 : v = Value.int p.2 u := h2
      subst h1 h2
      have rr : RelO (valV (intKv ls) p.1) (valueAt vb p.1) := rb.val p.1
      rw [valV_int] at rr
      rw [List.all_cons]
      cases e : (ls.find? fun x => decide (x.1 = p.1)).map (·.2) with
      | none =>
        rw [e] at rr
        have hn : valueAt vb p.1 = none := by
          cases z : valueAt vb p.1 with
          | none => rfl
          | some y => rw [z] at rr; exact rr.elim
        rw [show (decide ((none : Option Int) = some p.2) && ks.all _) = false by simp]
        exact .miss hn
      | some j =>
        rw [e] at rr
        obtain ⟨y, hy, u2, rfl⟩ := rr.some_of
        have : (decide (some j = some p.2)) = (p.2 == j) := by
          by_cases q : p.2 = j
          · subst q; simp
          · simp [q, Ne.symm q]
        rw [this]
        exact .hit hy (SeqAt.EqAt.eqP (SeqAt.EqAt.int_int _ _ _ _)) (hitsK rb t)
section
variable {X : Cx}
def rEqDK : R2 := fun x y H Q => ∃ (a b : Addr) (ks ls : List (Key × Int)), x = .ref a ∧ y = .ref b ∧ H a = some (.dK (intKv ks)) ∧ H b = some (.dK (intKv ls)) ∧ Q (.bl (eqKv ks ls)) H
theorem op_eqDK (hu : X.A.units + 64 < cLine) : OpR X (compareOp .Eq) rEqDK := by
  intro pins s σ H x y v u Q I rx ry h
  obtain ⟨a, b, ks, ls, rfl, rfl, ha, hb, q⟩ := h
  obtain rfl : v = Value.ref a := rx
  obtain rfl : u = Value.ref b := ry
  obtain ⟨_, ha0, va, ra, da⟩ := I.hok a _ ha
  obtain ⟨_, hb0, vb, rb, db⟩ := I.hok b _ hb
  have la : va.length = ks.length := by rw [← Paired.length ra]; simp [intKv]
  have lb : vb.length = ls.length := by rw [← Paired.length rb]; simp [intKv]
  show wpAny (model X.prog X.w) X.A (richCompare .Eq (.ref a) (.ref b)) (EP X pins σ Q) X.xe s
  refine PySem.W.rcP_dicts ha0 hb0 da db (by omega) (fun _ => hitsK rb ra) _ _ ?_
  rw [la, lb]
  exact ⟨.bl _, H, I, rfl, q⟩
end
/-! ### keys that are tuples -/
theorem rcH_dicts {P : Program} {w : World} {K : Type} [DecidableEq K] {knd : HeapKind P w K} {A : Around} {s : Shared} {a b : Addr} {ka kb : List (K × Addr × Value)} {r : Bool} (ha : (a == sysModules) = false) (hb : (b == sysModules) = false)
    (da : s.heap.DictOfH knd a ka) (db : s.heap.DictOfH knd b kb) (hu : A.units < cLine) (hu1 : knd.room A.in1) (hits : ka.length = kb.length → HitsH P w A.in1 s kb ka r) (E Q : Value → Shared → Prop) (h : Q (.bool (ka.length == kb.length && r)) s) : wpAny (model P w) A (richCompare .Eq (.ref a) (.ref b)) Q E s := by
  refine wpAny_richCompare_same_room (op := .Eq) da.typeIs db.typeIs PySem.F.slot_dict_eq (wpAny_call_entry PySem.F.slot_dict_eq da.typeIs PySem.F.entry_dict_eq ?_ (PySem.F.args_dict_eq_2 _ _)) hu
  show wpAny _ _ (Builtin.Dict.dictSlotArgs "__eq__" ⟨[.ref a, .ref b], []⟩ >>= _) _ _ s
  refine wpAny_bind ?_
  unfold Builtin.Dict.dictSlotArgs
  refine wpAny_bind (wpAny_notOrdered_dict da.typeIs ?_)
  show wpAny _ _ (pure (Value.ref a, Value.ref b)) _ _ s
  refine wpAny_pure ?_
  refine wpAny_bind (wpAny_isInstance (T := "dict") db.typeIs PySem.F.sub_dict_dict ?_)
  simp only [Bool.not_true, Bool.false_eq_true, if_false]
  refine wpAny_bind (wpAny_pure (wpAny_bind (wpAny_pure ?_)))
  refine wpAny_bind (samePairsH ha hb hu1 da db hits ?_)
  refine wpAny_pure ⟨_, rfl, ?_, ?_⟩
  · exact fun x => nomatch x
  · simpa using h
theorem valH_rel {H : Hp} : ∀ {ls : List (List Key × Int)} {vb : List (List Key × Addr × Value)}, KT H (intKv ls) vb → ∀ k : List Key, RelO ((((ls.find? fun x => decide (x.1 = k)).map (·.2))).map V.int) (valH vb k)
  | [], _, r, k => by cases r; exact trivial
  | p :: ls, _, r, k => by
    cases r with
    | @cons _ q _ qs h t =>
      obtain ⟨h1, _, h3⟩ := h
      have h1 : p.1 = q.1 := h1
      unfold valH
      by_cases e : p.1 = k
      · rw [List.find?_cons_of_pos (by simpa using e), List.find?_cons_of_pos (by rw [← h1]; simpa using e)]
        exact h3
      · rw [List.find?_cons_of_neg (by simpa using e), List.find?_cons_of_neg (by rw [← h1]; simpa using e)]
        exact valH_rel t k
theorem hitsT {P : Program} {w : World} {A : Around} {s : Shared} {H H2 : Hp} {ls : List (List Key × Int)} {vb : List (List Key × Addr × Value)} (rb : KT H (intKv ls) vb) : ∀ {ks : List (List Key × Int)} {va : List (List Key × Addr × Value)}, KT H2 (intKv ks) va →
    HitsH P w A s vb va (ks.all fun p => decide (((ls.find? fun x => decide (x.1 = p.1)).map (·.2)) = some p.2))
  | [], _, ra => by cases ra; exact .nil
  | p :: ks, _, ra => by
    cases ra with
    | @cons _ q _ qs h t =>
      obtain ⟨h1, _, u, h2⟩ := h
      obtain ⟨key, ad, v⟩ := q
      have h1 : p.1 = key := h1
      have h2 : v = Value.int p.2 u := h2
      subst h1 h2
      have rr := valH_rel rb p.1
      rw [List.all_cons]
      cases e : (ls.find? fun x => decide (x.1 = p.1)).map (·.2) with
      | none =>
        rw [e] at rr
        have hn : valH vb p.1 = none := by
          cases z : valH vb p.1 with
          | none => rfl
          | some y => rw [z] at rr; exact rr.elim
        rw [show (decide ((none : Option Int) = some p.2) && ks.all _) = false by simp]
        exact .miss hn
      | some j =>
        rw [e] at rr
        obtain ⟨y, hy, u2, rfl⟩ := rr.some_of
        have : (decide (some j = some p.2)) = (p.2 == j) := by
          by_cases q : p.2 = j
          · subst q; simp
          · simp [q, Ne.symm q]
        rw [this]
        exact .hit hy (SeqAt.EqAt.eqP (SeqAt.EqAt.int_int _ _ _ _)) (hitsT rb t)
section
variable {X : Cx}
def rEqDT : R2 := fun x y H Q => ∃ (a b : Addr) (ks ls : List (List Key × Int)), x = .ref a ∧ y = .ref b ∧ H a = some (.dT (intKv ks)) ∧ H b = some (.dT (intKv ls)) ∧ Q (.bl (eqKv ks ls)) H
theorem op_eqDT (hu : X.A.units + 64 < cLine) : OpR X (compareOp .Eq) rEqDT := by
  intro pins s σ H x y v u Q I rx ry h
  obtain ⟨a, b, ks, ls, rfl, rfl, ha, hb, q⟩ := h
  obtain rfl : v = Value.ref a := rx
  obtain rfl : u = Value.ref b := ry
  obtain ⟨_, ha0, va, ra, da⟩ := dt_of I.hok ha
  obtain ⟨_, hb0, vb, rb, db⟩ := dt_of I.hok hb
  have la : va.length = ks.length := by rw [← Paired.length ra]; simp [intKv]
  have lb : vb.length = ls.length := by rw [← Paired.length rb]; simp [intKv]
  show wpAny (model X.prog X.w) X.A (richCompare .Eq (.ref a) (.ref b)) (EP X pins σ Q) X.xe s
  refine rcH_dicts ha0 hb0 da db (by omega) ?_ (fun _ => hitsT rb ra) _ _ ?_
  · show X.A.in1.units < cLine
    show X.A.units + 1 < cLine
    omega
  · rw [la, lb]
    exact ⟨.bl _, H, I, rfl, q⟩
end
end MN
/-! d.pop(k, x) of a dict with tuple keys -/
namespace MN
open PySem PySem.Spec PyProof.Rows L2
theorem KT.drop {H : Hp} {kvs : List (List Key × V)} {xs : List (List Key × Addr × Value)} (r : KT H kvs xs) (k : List Key) : KT H (dropK kvs k) (withoutH xs k) := by
  unfold dropK withoutH
  induction r with
  | nil => exact .nil
  | @cons p q ps qs h t ih =>
    obtain ⟨h1, h2, h3⟩ := h
    by_cases e : p.1 = k
    · rw [List.filter_cons_of_neg (by simpa using e), List.filter_cons_of_neg (by rw [← h1]; simpa using e)]
      exact ih
    · rw [List.filter_cons_of_pos (by simpa using e), List.filter_cons_of_pos (by rw [← h1]; simpa using e)]
      exact .cons ⟨h1, h2, h3⟩ ih
section
variable {X : Cx} {pins : List (Addr × Obj)} {σ : L2.St} {H : Hp} {s : Shared} {a b : Addr} {kvs : List (List Key × V)} {k : List Key} {A : Around} {E : Value → Shared → Prop}
theorem d_popT {Q : VK} {z : V} {r : Value} (hu : A.units + 1 < cLine) (I : L2.Inv X pins σ H s) (e : H a = some (.dT kvs)) (eb : H b = some (.tup (k.map kV))) (rz : RelV z r)
    (h1 : ∀ v, valV kvs k = some v → Q v (upd H a (.dT (dropK kvs k)))) (h2 : valV kvs k = none → Q z H) :
    wpAny (model X.prog X.w) A (call (.builtin "dict.pop") [.ref a, .ref b, r]) (EP X pins σ Q) E s := by
  obtain ⟨hz, hd, xs, rel, dd⟩ := dt_of I.hok e
  have hx : xs.length ≤ sizeLine := by rw [← Paired.length rel]; exact hz
  have rv := KT.val rel k
  cases l : valV kvs k with
  | some v =>
    rw [l] at rv
    obtain ⟨w', hw, rw'⟩ := RelO.some_of rv
    obtain ⟨p, hp, rfl⟩ := Option.map_eq_some_iff.mp hw
    refine call_pop_heap (hsz := hx) (knd := tupleKind (mixKind X.prog X.w)) (.inr ⟨r, rfl⟩) (PySem.F.args_dict_pop_3 _ _ _) (tupleKind_room_in1 hu) (key_of I.hok eb) hd dd hp fun h' dd' hs => ?_
    obtain ⟨q, es, ep, hq, g2, g3, g4, _, g5⟩ := dd'
    refine ⟨v, _, d_write (ob := .dT (dropK kvs k)) I (by rw [e]; exact True.intro) hs ⟨q, hq⟩ ⟨Nat.le_trans (by unfold dropK; exact List.length_filter_le ..) hz, hd, _, (KT.drop rel k).keeps fun c ys ec => ?_, q, es, ep, hq, g2, g3, g4, g5⟩, rw', h1 v l⟩
    rw [upd_ne (ne_of ec e (fun z => nomatch z))]
    exact ec
  | none =>
    rw [l] at rv
    have hn : atKey xs k = none := by
      cases c : atKey xs k with
      | none => rfl
      | some p => rw [c] at rv; exact rv.elim
    exact call_pop_default_heap (hsz := hx) (knd := tupleKind (mixKind X.prog X.w)) (tupleKind_room_in1 hu) (key_of I.hok eb) hd dd hn fun tk => ⟨z, H, I.kept (h' := s.heap) (t' := tk) (fun _ _ q => q), rz, h2 l⟩
end
section
variable {X : Cx} {o e f : Expr} {apos cpos : Pos} {td ty tx : TE}
def tDPopT (td ty tx : TE) : TE := fun σ H Q => td σ H fun x H1 => ∃ a, x = .ref a ∧ IsD H1 a ∧ ty σ H1 fun y H2 => tx σ H2 fun z H3 => ∃ kvs k b, H3 a = some (.dT kvs) ∧ y = .ref b ∧ H3 b = some (.tup (k.map kV)) ∧
  (∀ v, valV kvs k = some v → Q v (upd H3 a (.dT (dropK kvs k)))) ∧ (valV kvs k = none → Q z H3)
theorem pe_dpopT (hu : X.A.units + 64 < cLine) (ho : PE X o td) (he : PE X e ty) (hf : PE X f tx) (m : M2 X o "pop" apos e f cpos) : PE X (.Call (.Attribute o "pop" apos) [e, f] [] cpos) (tDPopT td ty tx) := by
  refine ⟨fun pins s σ H Q I h => ?_⟩
  refine wpAny_Call_method m.base m.few m.line PySem.F.plainAttrs_dict PySem.F.slot_dict_pop PySem.F.type_dict_pop (thn (ho.run pins s σ H _ I h) fun u s1 ⟨x, H1, I1, rx, a, ex, d, q1⟩ => ?_)
  subst ex
  obtain rfl : u = Value.ref a := rx
  obtain ⟨t1, t2, _⟩ := isD_at I1 d
  refine ⟨t1, t2, ?_⟩
  rw [m.trees]
  refine Calls.callWith_builtin rfl (Calls.evalArgs_plain (Calls.spliced_cons (thn (he.run pins s1 σ H1 _ I1 q1) fun iv s2 ⟨y, H2, I2, ry, q2⟩ =>
    Calls.spliced_cons (thn (hf.run pins s2 σ H2 _ I2 q2) fun fv s3 ⟨z, H3, I3, rz, kvs, k, b, ea, ey, eb, q3, q4⟩ => Calls.spliced_nil ?_))))
  subst ey
  obtain rfl : iv = Value.ref b := ry
  exact d_popT (by omega) I3 ea eb rz q3 q4
end
end MN
/-! == and != by an own __eq__, with any second operand -/
namespace MN
open PySem PySem.Spec PyProof.Rows L2
/-- the value is of the type t -/
def TyV (K : PySem.W.Frag) (H : Hp) (y : V) (t : Value) : Prop := (∃ i, y = .int i ∧ t = .type "int") ∨ (∃ b xs, y = .ref b ∧ SqL K H b xs ∧ t = .type "list") ∨ (∃ b C dx fs, y = .ref b ∧ SlX.Slt H b C dx fs ∧ t = .ref C)
section
variable {X : Cx} {pins : List (Addr × Obj)} {σ : L2.St} {H : Hp} {s : Shared}
theorem TyV.looks {y : V} {t v : Value} (h : TyV X.K H y t) (I : L2.Inv X pins σ H s) (r : RelV y v) : PySem.W.Looks (model X.prog X.w) s.heap (typeOf v) t := by
  rcases h with ⟨i, rfl, rfl⟩ | ⟨b, xs, rfl, hs, rfl⟩ | ⟨b, C, dx, fs, rfl, hb, rfl⟩
  · obtain ⟨u, rfl⟩ := r
    exact PySem.W.Looks.of_pure rfl
  · obtain rfl : v = Value.ref b := r
    obtain ⟨its, rv, hl, _⟩ := I.list hs
    obtain ⟨o, ho, hc, _⟩ := hl.isList
    exact fun A Q E s k q => wpAny_typeOf_ref (k _ _ ho) (by rw [hc]; exact q)
  · obtain rfl : v = Value.ref b := r
    obtain ⟨_, od', _, J', _⟩ := SlX.slt_inst I hb
    exact J'.type
def rOwnEq (C : Addr) (sp : Sp) (E : XK) : R2 := fun x y H Q => ∃ a dx fs t, x = .ref a ∧ SlX.Slt H a C dx fs ∧ TyV X.K H y t ∧ PySem.W.notFirst X.K C t = true ∧ sp [.ref a, y] H (fun v H' => ∃ r, v = .bl r ∧ Q (.bl r) H') E
variable {CX : CXT} {C f : Addr} {fd : FuncData} {ps : List Str} {sp : Sp} {E : XK} {n : Nat}
/-- the call of the own __eq__, as the comparison makes it -/
theorem own_call (F : FnOk X.prog X.w X.K X.mg X.base CX n f fd ps sp) (hb : Binds X.K fd ps []) (hx : Passes CX X E) {A : Around} (sb : Sub X n A) {a : Addr} {y : V} {v : Value} (I : L2.Inv X pins σ H s) (r : RelV y v) {Q : Bool → L2.St → Hp → Prop} {R : Value → Shared → Prop}
    (h : sp [.ref a, y] H (fun v H' => ∃ r, v = .bl r ∧ Q r σ H') E) (k : ∀ (r : Bool) (s' : Shared) (H' : Hp), L2.Inv X pins σ H' s' → Q r σ H' → R (.bool r) s') :
    wpAny (model X.prog X.w) A (call (.ref f) [.ref a, v]) R X.xe s := by
  have e0 : Env0 X.prog X.w X.K X.mg X.base A X.stack s H := by
    have e := I.env0
    exact ⟨by rw [sb.fr]; exact e.frames, e.mod, e.bs, e.bsz, e.funs, e.frf, e.hok, e.bare⟩
  have hl := F.len _ _ _ _ h
  have r2 : Vals [V.ref a, y] [Value.ref a, v] := .cons rfl (.cons r .nil)
  refine wpAny_call (codeAny_mono (F.run A X.stack s H ⟨[.ref a, v], []⟩ [.ref a, v] [.ref a, y] _ E sb.room e0 (by
    have := hb s [.ref a, v] I.kIn (by simpa using hl)
    simpa using this) r2 h) fun r s' hq => ?_)
  cases r with
  | error e => exact hx pins σ H s e s' I hq
  | ok fl =>
    cases fl with
    | ret w =>
      obtain ⟨z, H', I', rz, b, ez, ex⟩ := I.after hq
      subst ez
      cases rz
      exact k b s' H' I' ex
    | next => exact False.elim hq
    | brk => exact False.elim hq
    | cont => exact False.elim hq
theorem op_eqOwn (F : FnOk X.prog X.w X.K X.mg X.base CX n f fd ps sp) (hr : Room n X.A) (hs : PySem.W.findIn X.K (.ref C) "__eq__" = some (some (.ref f))) (hf : PySem.W.isFn X.K (.ref f) = true) (hb : Binds X.K fd ps []) (hx : Passes CX X E) :
    OpR X (compareOp .Eq) (rOwnEq (X := X) C sp E) := by
  intro pins s σ H x y v u Q I rx ry hq
  obtain ⟨a, dx, fs, t, rfl, ha, ty, nf, h⟩ := hq
  obtain rfl : v = Value.ref a := rx
  obtain ⟨_, od, _, J, _⟩ := SlX.slt_inst I ha
  obtain ⟨m, hF⟩ := I.fr
  show wpAny (model X.prog X.w) X.A (richCompare .Eq (.ref a) u) (EP X pins σ Q) X.xe s
  refine PySem.W.cmp_K (op := .Eq) (tb := t) hr.units0 hF I.ok.mod.kin J (ty.looks I ry) nf hs hf ?_
  exact own_call (Q := fun r _ H' => Q (.bl r) H') F hb hx ⟨hr, rfl⟩ I ry h fun r s' H' I' q => ⟨.bl r, H', I', rfl, q⟩
theorem bind_ne (self : Value) : bindSpecial (.builtin "object.__ne__") self = pure (.builtin "object.__ne__", [self]) := PySem.F.slot_object_ne.bind self
theorem own_ne (F : FnOk X.prog X.w X.K X.mg X.base CX n f fd ps sp) (hb : Binds X.K fd ps []) (hx : Passes CX X E) (hr : Room (n + 1) X.A) (hs : PySem.W.findIn X.K (.ref C) "__eq__" = some (some (.ref f))) (hf : PySem.W.isFn X.K (.ref f) = true)
    (hn : PySem.W.findIn X.K (.ref C) "__ne__" = some (some (.builtin "object.__ne__"))) (ho : PySem.W.subIn X.K (.ref C) (.type "object") = some true) {a : Addr} {ox : Obj} {od : Option Obj} {y : V} {v : Value} (I : L2.Inv X pins σ H s) (J : PySem.W.InstAt s.heap a ox C od) (r : RelV y v) {Q : Bool → L2.St → Hp → Prop} {R : Option Value → Shared → Prop}
    (h : sp [.ref a, y] H (fun v H' => ∃ r, v = .bl r ∧ Q r σ H') E) (k : ∀ (r : Bool) (s' : Shared) (H' : Hp), L2.Inv X pins σ H' s' → Q r σ H' → R (some (.bool (!r))) s') :
    wpAny (model X.prog X.w) X.A (tryCompare (.ref a) "__ne__" v) R X.xe s := by
  have KX := I.kIn
  have u0 := hr.units0
  unfold tryCompare
  refine wpAny_bind (wpAny_mono (Q := fun r s' => ∃ b : Bool, r = some (.bool b) ∧ R (some (.bool b)) s') ?_ (fun r s' ⟨b, e, q⟩ => by subst e; exact wpAny_pure q) (fun _ _ e => e))
  simp only [callSpecialIfBound?, bindSpecialIfBound?]
  refine wpAny_holding (wpAny_bind (wpAny_bind (wpAny_bind (J.type.here ((PySem.W.looks_findIn KX hn).here ?_)))))
  refine wpAny_bind (wpAny_askSetting (wpAny_ite ?_))
  have fin : wpAny (model X.prog X.w) X.A (call (.builtin "object.__ne__") ([.ref a] ++ [v]) >>= fun v => pure (some v)) (fun r s' => ∃ b : Bool, r = some (.bool b) ∧ R (some (.bool b)) s') X.xe s := by
    refine wpAny_bind ?_
    refine wpAny_call (codeAny_call_builtin PySem.F.slot_object_ne.plain PySem.F.entry_object_ne (PySem.W.check_slot (i := "object.__ne__") (owner := "object") (n := "__ne__") (by decide +kernel) (by decide +kernel) (J.type.andThen (PySem.W.looks_subIn KX ho)) (PySem.F.cmpArgs_ne _ _) ?_))
    unfold Builtin.«object.__ne__»
    refine wpAny_bind (wpAny_pure ?_)
    refine wpAny_bind (m := cRoomFor _ _) (wpAny_cRoomFor (by show X.A.in1.units < cLine; exact hr.in1.units0) ?_)
    refine wpAny_bind (m := callSpecialIfBound? (.ref a) (Str.ofString "__eq__") _) (PySem.W.ifBound_K KX J hs hf (own_call (A := X.A.in1) F hb hx (Sub.in1 ⟨hr, rfl⟩) I r h fun b s' H' I' q => ?_))
    refine wpAny_bind (m := truthy (.bool _)) (wpAny_truthy_bool ?_)
    exact wpAny_pure (wpAny_pure ⟨_, rfl, k b s' H' I' q⟩)
  split
  · exact wpAny_bind ((PySem.W.Looks.of_pure (bind_ne _)).here (wpAny_pure (by exact fin)))
  · exact wpAny_tryCatch (wpAny_bind ((PySem.W.Looks.of_pure (bind_ne _)).here (wpAny_pure (by exact fin))))
def rOwnNe (C : Addr) (sp : Sp) (E : XK) : R2 := fun x y H Q => ∃ a dx fs t, x = .ref a ∧ SlX.Slt H a C dx fs ∧ TyV X.K H y t ∧ PySem.W.notFirst X.K C t = true ∧ sp [.ref a, y] H (fun v H' => ∃ r, v = .bl r ∧ Q (.bl (!r)) H') E
theorem op_neOwn (F : FnOk X.prog X.w X.K X.mg X.base CX n f fd ps sp) (hr : Room (n + 1) X.A) (hs : PySem.W.findIn X.K (.ref C) "__eq__" = some (some (.ref f))) (hf : PySem.W.isFn X.K (.ref f) = true) (hb : Binds X.K fd ps []) (hx : Passes CX X E)
    (hn : PySem.W.findIn X.K (.ref C) "__ne__" = some (some (.builtin "object.__ne__"))) (ho : PySem.W.subIn X.K (.ref C) (.type "object") = some true) : OpR X (compareOp .NotEq) (rOwnNe (X := X) C sp E) := by
  intro pins s σ H x y v u Q I rx ry hq
  obtain ⟨a, dx, fs, t, rfl, ha, ty, nf, h⟩ := hq
  obtain rfl : v = Value.ref a := rx
  obtain ⟨_, od, _, J, _⟩ := SlX.slt_inst I ha
  have one := own_ne (R := fun r s' => ∃ b : Bool, r = some (.bool b) ∧ EP X pins σ Q (.bool b) s') F hb hx hr hs hf hn ho I J ry (Q := fun r _ H' => Q (.bl (!r)) H') h fun r s' H' I' q => ⟨!r, rfl, .bl (!r), H', I', rfl, q⟩
  show wpAny (model X.prog X.w) X.A (richCompare .NotEq (.ref a) u) (EP X pins σ Q) X.xe s
  unfold richCompare
  simp only [oneThing_ref]
  refine wpAny_holding (wpAny_bind (wpAny_cRoomFor hr.units0 ?_))
  refine wpAny_bind (J.type.here (wpAny_bind ((ty.looks I ry).here ?_)))
  split
  · rename_i q
    have e : PySem.W.subIn X.K t (.ref C) = some false := by
      rcases Bool.or_eq_true_iff.mp nf with e | e
      · rw [beq_iff_eq.mp e] at q; simp at q
      · exact beq_iff_eq.mp e
    refine wpAny_bind ((PySem.W.looks_subIn I.kIn e).here ?_)
    simp only [Bool.false_eq_true, if_false]
    refine wpAny_bind (wpAny_mono one (fun r s' z => ?_) fun _ _ e => e)
    obtain ⟨b, rfl, hq⟩ := z
    exact wpAny_pure hq
  · refine wpAny_bind (wpAny_pure ?_)
    simp only [Bool.false_eq_true, if_false]
    refine wpAny_bind (wpAny_mono one (fun r s' z => ?_) fun _ _ e => e)
    obtain ⟨b, rfl, hq⟩ := z
    exact wpAny_pure hq
end
end MN
/-! sorted items: one order -/
namespace MN
open PySem PySem.Spec PyProof.Rows L2
theorem pairwise_one {α : Type} {R : α → α → Prop} (asym : ∀ a b, R a b → ¬ R b a) : ∀ {xs ys : List α}, xs.Pairwise R → ys.Pairwise R → (∀ z, z ∈ xs ↔ z ∈ ys) → xs = ys
  | [], [], _, _, _ => rfl
  | [], y :: ys, _, _, h => absurd ((h y).mpr List.mem_cons_self) List.not_mem_nil
  | x :: xs, [], _, _, h => absurd ((h x).mp List.mem_cons_self) List.not_mem_nil
  | x :: xs, y :: ys, hx, hy, h => by
    have irr : ∀ a, ¬ R a a := fun a q => asym a a q q
    obtain ⟨hx1, hx2⟩ := List.pairwise_cons.mp hx
    obtain ⟨hy1, hy2⟩ := List.pairwise_cons.mp hy
    have e : x = y := by
      rcases List.mem_cons.mp ((h x).mp List.mem_cons_self) with e | e
      · exact e
      · rcases List.mem_cons.mp ((h y).mpr List.mem_cons_self) with e2 | e2
        · exact e2.symm
        · exact absurd (hx1 y e2) (asym _ _ (hy1 x e))
    subst e
    congr 1
    refine pairwise_one asym hx2 hy2 fun z => ⟨fun q => ?_, fun q => ?_⟩
    · rcases List.mem_cons.mp ((h z).mp (List.mem_cons_of_mem _ q)) with e | e
      · rw [e] at q; exact absurd (hx1 x q) (irr x)
      · exact e
    · rcases List.mem_cons.mp ((h z).mpr (List.mem_cons_of_mem _ q)) with e | e
      · rw [e] at q; exact absurd (hy1 x q) (irr x)
      · exact e
def sL (z : Str) : List Nat := z.cps.toList
theorem sL_inj {a b : Str} (h : sL a = sL b) : a = b := by
  cases a; cases b
  unfold sL at h
  congr 1
  exact Array.toList_inj.mp h
theorem sL_tri (a b : Str) : sL a < sL b ∨ a = b ∨ sL b < sL a := by
  by_cases h : sL a < sL b
  · exact .inl h
  · by_cases h2 : sL b < sL a
    · exact .inr (.inr h2)
    · exact .inr (.inl (sL_inj (List.le_antisymm (List.not_lt.mp h2) (List.not_lt.mp h))))
theorem dataLt_si (x x' : Str) (y y' : Int) : PySem.W.dataLt (.tuple [.str x, .int y]) (.tuple [.str x', .int y']) = decide (sL x < sL x' ∨ (x = x' ∧ y < y')) := by
  rw [PySem.W.dataLt_pair (by simp [PySem.W.alike]) (by simp [PySem.W.alike]), PySem.W.dataLt_str, PySem.W.dataLt_int]
  simp only [PyData.eqv, beq_iff_eq]
  by_cases h1 : x = x'
  · subst h1
    have : ¬ sL x < sL x := List.lt_irrefl _
    by_cases h2 : y = y' <;> simp [h2, this]
  · simp [h1, sL]
theorem dataLt_ss (x y x' y' : Str) : PySem.W.dataLt (.tuple [.str x, .str y]) (.tuple [.str x', .str y']) = decide (sL x < sL x' ∨ (x = x' ∧ sL y < sL y')) := by
  rw [PySem.W.dataLt_pair (by simp [PySem.W.alike]) (by simp [PySem.W.alike]), PySem.W.dataLt_str, PySem.W.dataLt_str]
  simp only [PyData.eqv, beq_iff_eq]
  by_cases h1 : x = x'
  · subst h1
    rw [if_pos rfl]
    have t : ¬ sL x < sL x := List.lt_irrefl _
    by_cases h2 : y = y'
    · subst h2
      rw [if_pos rfl]
      exact (decide_eq_false (by rintro (q | ⟨_, q⟩) <;> first | exact t q | exact List.lt_irrefl _ q)).symm
    · rw [if_neg h2]
      show decide (sL y < sL y') = _
      exact decide_eq_decide.mpr ⟨fun q => .inr ⟨rfl, q⟩, fun q => q.elim (fun q => absurd q t) And.right⟩
  · rw [if_neg h1]
    show decide (sL x < sL x') = _
    exact decide_eq_decide.mpr ⟨fun q => .inl q, fun q => q.elim id fun q => absurd q.1 h1⟩
theorem dataLt_ssi (x y x' y' : Str) (n n' : Int) : PySem.W.dataLt (.tuple [.tuple [.str x, .str y], .int n]) (.tuple [.tuple [.str x', .str y'], .int n']) = decide ((sL x < sL x' ∨ (x = x' ∧ sL y < sL y')) ∨ ((x, y) = (x', y') ∧ n < n')) := by
  rw [PySem.W.dataLt_pair (by simp [PySem.W.alike, PySem.W.alikeAll]) (by simp [PySem.W.alike]), PySem.W.dataLt_int, dataLt_ss]
  by_cases h1 : x = x' ∧ y = y'
  · obtain ⟨rfl, rfl⟩ := h1
    have e : PyData.eqv (.tuple [.str x, .str y]) (.tuple [.str x, .str y]) = true := by simp [PyData.eqv, PyData.eqvAll]
    rw [if_pos e]
    have t : ¬ (sL x < sL x ∨ (x = x ∧ sL y < sL y)) := by rintro (q | ⟨_, q⟩) <;> exact List.lt_irrefl _ q
    by_cases h2 : n = n'
    · subst h2
      have e2 : PyData.eqv (.int n) (.int n) = true := by simp [PyData.eqv]
      rw [if_pos e2]
      exact (decide_eq_false (by rintro (q | ⟨_, q⟩) <;> first | exact t q | omega)).symm
    · have e2 : ¬ PyData.eqv (.int n) (.int n') = true := by simp [PyData.eqv, h2]
      rw [if_neg e2]
      exact decide_eq_decide.mpr ⟨fun q => .inr ⟨rfl, q⟩, fun q => q.elim (fun q => absurd q t) And.right⟩
  · have e : ¬ PyData.eqv (.tuple [.str x, .str y]) (.tuple [.str x', .str y']) = true := by
      simp only [PyData.eqv, PyData.eqvAll, Bool.and_true, Bool.and_eq_true, beq_iff_eq]
      exact h1
    rw [if_neg e]
    exact decide_eq_decide.mpr ⟨fun q => .inl q, fun q => q.elim id fun q => absurd (Prod.mk.inj q.1) h1⟩
def kLt (a b : Str × Str) : Prop := sL a.1 < sL b.1 ∨ (a.1 = b.1 ∧ sL a.2 < sL b.2)
theorem kLt_asym (a b : Str × Str) (h : kLt a b) : ¬ kLt b a := by
  rintro (q | ⟨q1, q2⟩)
  · rcases h with h | ⟨h1, _⟩
    · exact List.lt_asymm h q
    · rw [h1] at q; exact List.lt_irrefl _ q
  · rcases h with h | ⟨_, h2⟩
    · rw [q1] at h; exact List.lt_irrefl _ h
    · exact List.lt_asymm h2 q2
theorem kLt_trans {a b c : Str × Str} (h : kLt a b) (h' : kLt b c) : kLt a c := by
  rcases h with h | ⟨h1, h2⟩
  · rcases h' with q | ⟨q1, _⟩
    · exact .inl (List.lt_trans h q)
    · rw [q1] at h; exact .inl h
  · rcases h' with q | ⟨q1, q2⟩
    · rw [← h1] at q; exact .inl q
    · exact .inr ⟨h1.trans q1, List.lt_trans h2 q2⟩
theorem kLt_tri (a b : Str × Str) : kLt a b ∨ a = b ∨ kLt b a := by
  rcases sL_tri a.1 b.1 with h | h | h
  · exact .inl (.inl h)
  · rcases sL_tri a.2 b.2 with q | q | q
    · exact .inl (.inr ⟨h, q⟩)
    · exact .inr (.inl (Prod.ext h q))
    · exact .inr (.inr (.inr ⟨h.symm, q⟩))
  · exact .inr (.inr (.inl h))
/-- a merge sort by a strict order, of a list in which nothing stands twice -/
theorem msort_of {α : Type} {R : α → α → Prop} {le : α → α → Bool} (hle : ∀ a b, le a b = true ↔ ¬ R b a) (asym : ∀ a b, R a b → ¬ R b a) (tr : ∀ a b c, R a b → R b c → R a c) (tri : ∀ a b, R a b ∨ a = b ∨ R b a) {l : List α} (nd : l.Nodup) : (l.mergeSort le).Pairwise R := by
  have h1 : (l.mergeSort le).Pairwise fun a b => le a b = true := by
    refine List.pairwise_mergeSort (fun a b c h1 h2 => ?_) (fun a b => ?_) l
    · rw [hle] at h1 h2 ⊢
      intro q
      rcases tri b c with t | t | t
      · exact h1 (tr _ _ _ t q)
      · rw [← t] at q; exact h1 q
      · exact h2 t
    · rw [Bool.or_eq_true, hle, hle]
      by_cases q : R b a
      · exact .inr (asym _ _ q)
      · exact .inl q
  have h2 : (l.mergeSort le).Nodup := (List.mergeSort_perm ..).nodup_iff.mpr nd
  refine (List.Pairwise.and h1 h2).imp fun {a b} h => ?_
  rcases tri a b with t | t | t
  · exact t
  · exact absurd t h.2
  · exact absurd t ((hle a b).mp h.1)
theorem sortK {zs : List Str} (nd : zs.Nodup) (g : Str → Int) : (zs.mergeSort (PySem.W.dataLe false fun z => .tuple [.str z, .int (g z)])).Pairwise fun a b => sL a < sL b := by
  refine msort_of (R := fun a b : Str => sL a < sL b) (fun a b => ?_) (fun a b h q => List.lt_asymm h q) (fun a b c h q => List.lt_trans h q) sL_tri nd
  show (!PySem.W.dataLt _ _) = true ↔ _
  rw [dataLt_si, Bool.not_eq_true', decide_eq_false_iff_not]
  refine not_congr ⟨fun h => ?_, .inl⟩
  rcases h with h | ⟨h1, h2⟩
  · exact h
  · rw [h1] at h2; omega
def iLt (a b : (Str × Str) × Int) : Prop := kLt a.1 b.1 ∨ (a.1 = b.1 ∧ a.2 < b.2)
theorem sortT0 {ps : List ((Str × Str) × Int)} (nd : ps.Nodup) : (ps.mergeSort (PySem.W.dataLe false fun e => .tuple [.tuple [.str e.1.1, .str e.1.2], .int e.2])).Pairwise iLt := by
  refine msort_of (fun a b => ?_) (fun a b h q => ?_) (fun a b c h q => ?_) (fun a b => ?_) nd
  · show (!PySem.W.dataLt _ _) = true ↔ _
    rw [dataLt_ssi, Bool.not_eq_true', decide_eq_false_iff_not]
    exact Iff.rfl
  · rcases h with h | ⟨h1, h2⟩
    · rcases q with q | ⟨q1, _⟩
      · exact kLt_asym _ _ h q
      · rw [q1] at h; exact kLt_asym _ _ h h
    · rcases q with q | ⟨_, q2⟩
      · rw [h1] at q; exact kLt_asym _ _ q q
      · omega
  · rcases h with h | ⟨h1, h2⟩
    · rcases q with q | ⟨q1, _⟩
      · exact .inl (kLt_trans h q)
      · rw [q1] at h; exact .inl h
    · rcases q with q | ⟨q1, q2⟩
      · rw [← h1] at q; exact .inl q
      · exact .inr ⟨h1.trans q1, by omega⟩
  · rcases kLt_tri a.1 b.1 with h | h | h
    · exact .inl (.inl h)
    · rcases (show a.2 < b.2 ∨ a.2 = b.2 ∨ b.2 < a.2 by omega) with q | q | q
      · exact .inl (.inr ⟨h, q⟩)
      · exact .inr (.inl (Prod.ext h q))
      · exact .inr (.inr (.inr ⟨h.symm, q⟩))
    · exact .inr (.inr (.inl h))
theorem sortT {ps : List ((Str × Str) × Int)} (nd : (ps.map Prod.fst).Nodup) : (ps.mergeSort (PySem.W.dataLe false fun e => .tuple [.tuple [.str e.1.1, .str e.1.2], .int e.2])).Pairwise fun a b => kLt a.1 b.1 := by
  have nd0 : ps.Nodup := by
    rw [List.Nodup, List.pairwise_map] at nd
    exact nd.imp fun h e => h (by rw [e])
  have h1 := sortT0 nd0
  have h2 : (ps.mergeSort (PySem.W.dataLe false fun e => .tuple [.tuple [.str e.1.1, .str e.1.2], .int e.2])).Pairwise fun a b => a.1 ≠ b.1 := by
    have := (((List.mergeSort_perm ps (PySem.W.dataLe false fun e => .tuple [.tuple [.str e.1.1, .str e.1.2], .int e.2])).map Prod.fst).nodup_iff).mpr nd
    rw [List.Nodup, List.pairwise_map] at this
    exact this
  exact (List.Pairwise.and h1 h2).imp fun {a b} h => h.1.elim id fun q => absurd q.1 h.2
/-- the two ways to sort are one -/
theorem sorted_oneT {ps qs : List ((Str × Str) × Int)} (hp : ps.Perm qs) (nd : (qs.map Prod.fst).Nodup) (hs : ps.Pairwise fun a b => kLt a.1 b.1) : qs.mergeSort (PySem.W.dataLe false fun e => .tuple [.tuple [.str e.1.1, .str e.1.2], .int e.2]) = ps :=
  pairwise_one (R := fun a b : (Str × Str) × Int => kLt a.1 b.1) (fun a b => kLt_asym a.1 b.1) (sortT nd) hs fun z => by rw [List.mem_mergeSort, hp.mem_iff]
theorem sorted_oneK {ys zs : List Str} (hp : ys.Perm zs) (nd : zs.Nodup) (g : Str → Int) (hs : ys.Pairwise fun a b => sL a < sL b) : zs.mergeSort (PySem.W.dataLe false fun z => .tuple [.str z, .int (g z)]) = ys :=
  pairwise_one (R := fun a b : Str => sL a < sL b) (fun a b h q => List.lt_asymm h q) (sortK nd g) hs fun z => by rw [List.mem_mergeSort, hp.mem_iff]
end MN
/-! prices whose put and out prices may be one dict (made of parts Pr06a, Pr06b) -/
namespace MN
open PySem PySem.Spec PyProof.Rows L2
section
variable {P : Program} {w : World} {K : PySem.W.Frag} {mg : Str → Option Value} {base : Heap}
def spAreP2 : Sp := fun vs H Q _ => ∃ a b c zs zs2 g o ps, vs = [.ref a, .ref b, .ref c] ∧ H a = some (.dK (dkF zs g)) ∧ H b = some (.dK (dkF zs2 o)) ∧ H c = some (.dT (dtF ps)) ∧ PrN zs zs2 g o ps ∧ ∀ H', Same H H' → Q (.bl true) H'
abbrev N_are_prices2 : List Str := ["put", "out", "swap", "table", "sign", "price", "pair"]
theorem sc_are_prices2 : FnScope N_are_prices2 ["put", "out", "swap"] (defScope (top 21)) := ⟨rfl, rfl, rfl, by decide +kernel, rfl, by decide +kernel, by decide +kernel⟩
theorem c_are_prices2 (A : At K mg "are_prices" (top 21)) (B : Blt mg) (G1 : GlC mg "MAX_PRICE" (.int 9)) (G2 : GlC mg "MAX_SWAP" (.int 18)) (c_is_sign : Cal P w K mg base 1 "is_sign" (spIsSign K)) (c_is_price : Cal P w K mg base 2 "is_price" (spIsPrice K)) (c_is_pair : Cal P w K mg base 2 "is_pair" (spIsPair K)) : Cal P w K mg base 3 "are_prices" spAreP2 := by
  refine cal_of A sc_are_prices2 (fun _ _ _ _ _ _ us hl => match us, hl with | [_, _, _], _ => rfl) (fun vs H Q E h => ?_) (fun f cdv A outer s H vs Q E hr h => ?_)
  · obtain ⟨_, _, _, _, _, _, _, _, rfl, _⟩ := h; rfl
  · obtain ⟨a, b, c, zs, zs2, g, o, ps, rfl, ha, hb, hc, N, hQ⟩ := h
    refine ⟨_, (pss_cons (ps_if (PW.pt (pw_or (pt_not (pt_val (pe_callB (cr_all rfl) (by rfl) B.all (by decide +kernel) (pa_cons (pe_lc (own := [("table", 3)]) (g := gName 3) (tt := tYes) (by rfl) sc_are_prices2.nd (pi_tup (pe_tup (pa_cons (pv 0) (pa_cons (pv 1) (pa_cons (pv 2) pa_nil))))) (blkOk_by (own := [("table", 3)]) (N := N_are_prices2) (sc := defScope (top 21)) (by decide +kernel)) (fun _ _ _ _ _ => (pg_name (i := 3) sc_are_prices2.nd rfl (Or.inl rfl))) (fun _ _ _ _ _ => pts_nil) (fun _ _ _ _ _ => (pe_callB (isSK (K := K) rfl) (by rfl) B.isinstance (by decide +kernel) (pa_cons (pv 3) (pa_cons (pe_bltn (v := .ty "dict") (by rfl) B.dict (by decide +kernel) rfl) pa_nil))))) pa_nil)))) (pw_or1 (pt_cmpR op_eq (pe_callB call_lenD (by rfl) B.len (by decide +kernel) (pa_cons (pv 0) pa_nil)) pe_int (nomark _)))))
      (pss_one (ps_ret pe_bl))
      pss_nil)
      (pss_cons (ps_if (PW.pt (pw_or (pt_not (pt_val (pe_callB (cr_all rfl) (by rfl) B.all (by decide +kernel) (pa_cons (pe_lock (pe_lc (own := [("sign", 4)]) (g := gName 4) (tt := tYes) (by rfl) sc_are_prices2.nd (pi_keys (pv 0)) (blkOk_by (own := [("sign", 4)]) (N := N_are_prices2) (sc := defScope (top 21)) (by decide +kernel)) (fun _ _ _ _ _ => (pg_name (i := 4) sc_are_prices2.nd rfl (Or.inl rfl))) (fun _ _ _ _ _ => pts_nil) (fun _ _ _ _ _ => (pe_c c_is_sign hr (by decide) (by rfl) (pa_cons (pv 4) pa_nil))))) pa_nil)))) (pw_or (pt_cmpR op_ne (pe_callB call_lenD (by rfl) B.len (by decide +kernel) (pa_cons (pv 0) pa_nil)) (pe_callB call_lenD (by rfl) B.len (by decide +kernel) (pa_cons (pv 1) pa_nil)) (nomark _)) (pw_or1 (pt_not (pt_val (pe_callB (cr_all rfl) (by rfl) B.all (by decide +kernel) (pa_cons (pe_lock (pe_lc (own := [("sign", 4)]) (g := gName 4) (tt := tYes) (by rfl) sc_are_prices2.nd (pi_keys (pv 0)) (blkOk_by (own := [("sign", 4)]) (N := N_are_prices2) (sc := defScope (top 21)) (by decide +kernel)) (fun _ _ _ _ _ => (pg_name (i := 4) sc_are_prices2.nd rfl (Or.inl rfl))) (fun _ _ _ _ _ => pts_nil) (fun _ _ _ _ _ => (pe_cmp (pc_din (hu_of hr) (pv 4) (pv 1)))))) pa_nil))))))))
        (pss_one (ps_ret pe_bl))
        pss_nil)
      (pss_cons (ps_if (pt_not (pt_val (pe_callB (cr_all rfl) (by rfl) B.all (by decide +kernel) (pa_cons (pe_lc (own := [("price", 5)]) (g := gName 5) (tt := tYes) (by rfl) sc_are_prices2.nd (pi_list (pe_op op_cat (pe_listVals rfl (pv 0) (by rfl) B.list) (pe_listVals rfl (pv 1) (by rfl) B.list))) (blkOk_by (own := [("price", 5)]) (N := N_are_prices2) (sc := defScope (top 21)) (by decide +kernel)) (fun _ _ _ _ _ => (pg_name (i := 5) sc_are_prices2.nd rfl (Or.inl rfl))) (fun _ _ _ _ _ => pts_nil) (fun _ _ _ _ _ => (pe_c c_is_price hr (by decide) (by rfl) (pa_cons (pv 5) (pa_cons (pe_gl (by rfl) G1) pa_nil))))) pa_nil))))
        (pss_one (ps_ret pe_bl))
        pss_nil)
      (pss_one (ps_ret (pe_callB (cr_all rfl) (by rfl) B.all (by decide +kernel) (pa_cons (pe_lock (pe_lc (own := [("pair", 6), ("price", 5)]) (tt := tYes) (by rfl) sc_are_prices2.nd (pi_itemsT (pv 2)) (blkOk_by (own := [("pair", 6), ("price", 5)]) (N := N_are_prices2) (sc := defScope (top 21)) (by decide +kernel)) (fun _ _ _ _ _ => (pg_tupK (K := K) (n := 2) rfl rfl (pgs_cons (pg_name (i := 6) sc_are_prices2.nd rfl (Or.inl rfl)) (pgs_cons (pg_name (i := 5) sc_are_prices2.nd rfl (Or.inl rfl)) pgs_nil)))) (fun _ _ _ _ _ => pts_nil) (fun _ _ _ _ _ => pe_and (pe_c c_is_pair hr (by decide) (by rfl) (pa_cons (pv 6) (pa_cons (pv 0) pa_nil))) (pe_one (pe_c c_is_price hr (by decide) (by rfl) (pa_cons (pv 5) (pa_cons (pe_gl (by rfl) G2) pa_nil))))))) pa_nil))))))), ?_⟩
    have lz : (dkF zs g).length = zs.length := by simp [dkF]
    have lz2 : (dkF zs2 o).length = zs.length := by simp [dkF, N.pm.length_eq]
    -- all are dicts
    refine ⟨_, rfl, _, rfl, _, rfl, (show 3 ≤ sizeLine by decide), fun p hp => ⟨p, rfl, ⟨_, .inl (.inl upd_same)⟩, fun D hD => ?_⟩⟩
    have e1 : Same H (upd H p (.tup [.ref a, .ref b, .ref c])) := same_new hp
    refine lc_tplE (.inl (.inl upd_same)) hD (show 3 ≤ 1000000 by decide) (fun _ => true) (fun x => .bl true) (fun x _ => rfl) (fun x _ H2 e2 Q q => q _ (Same.refl _)) (fun x hx _ H2 e2 Q q => ?_) (fun H2 e2 h2 => ?_)
    · refine ⟨_, rfl, x, "dict", true, rfl, ?_, q _ (Same.refl _)⟩
      have ea := e2 _ _ (e1 _ _ ha)
      have eb := e2 _ _ (e1 _ _ hb)
      have ec := e2 _ _ (e1 _ _ hc)
      have hx' : x = .ref a ∨ x = .ref b ∨ x = .ref c := by simpa using hx
      rcases hx' with rfl | rfl | rfl
      · exact .ty (.base (.dK ea)) (by decide +kernel)
      · exact .ty (.base (.dK eb)) (by decide +kernel)
      · exact .ty (.base (.dT ec)) (by decide +kernel)
    refine ⟨D, [true, true, true], rfl, .inl (.inl h2), _, rfl, iteF ?_⟩
    have e2 := e1.trans e2
    refine ⟨_, rfl, a, _, rfl, e2 _ _ ha, rfl, _, rfl, ?_⟩
    rw [show decide (V.int ((dkF zs g).length : Nat) = V.int 0) = false from decide_eq_false fun z => by have := N.pos; injection z with z; omega]
    refine iteF ?_
    have ks : ∀ x ∈ (dkF zs g).map (fun kv => kV kv.1), ∃ z ∈ zs, x = .str z := fun x hx => by
      unfold dkF at hx
      rw [List.map_map] at hx
      obtain ⟨z, hz, rfl⟩ := List.mem_map.mp hx
      exact ⟨z, hz, rfl⟩
    have kl : (dkF zs g).length ≤ 1000000 := by have := N.le; omega
    have bs : ((((dkF zs g).map fun kv => kV kv.1).filter fun _ => true).map fun _ => V.bl true) = (List.replicate zs.length true).map V.bl := by
      unfold dkF
      rw [filter_all, List.map_map, List.map_map, List.map_replicate]
      exact List.map_const' ..
    have ball : ∀ n, (List.replicate n true).all id = true := fun n => by simp
    -- all keys are signs
    refine ⟨a, _, e2 _ _ ha, trivial, fun od => ⟨_, rfl, a, od, rfl, .inl ⟨_, upd_same, fun D2 hD2 => ?_⟩⟩⟩
    refine lc_keysL (e2 _ _ ha) hD2 kl (fun _ => true) (fun x => .bl true) (fun x _ => rfl) (fun x _ H3 _ _ Q q => q) (fun x hx _ H3 f3 _ Q q => ?_) (fun H3 f3 e3 h3 => ⟨f3, ?_⟩)
    · obtain ⟨z, hz, rfl⟩ := ks x hx
      refine ⟨_, rfl, _, rfl, .str (by rw [len_one (N.sg z hz)]; decide), ?_⟩
      rw [isSign_one (N.sg z hz)]
      exact q
    generalize upd H3 a (.dK (dkF zs g)) = H3' at *
    rw [bs] at h3
    refine ⟨D2, _, rfl, .inl (.inl h3), _, rfl, ?_⟩
    rw [ball]
    refine iteF ?_
    have e3 := e2.trans e3
    refine ⟨_, rfl, a, _, rfl, e3 _ _ ha, _, rfl, b, _, rfl, e3 _ _ hb, rfl, _, rfl, ?_⟩
    rw [lz, lz2, show (!decide (V.int (zs.length : Nat) = V.int (zs.length : Nat))) = false by simp]
    refine iteF ?_
    -- all keys in out
    refine ⟨a, _, e3 _ _ ha, trivial, fun od => ⟨_, rfl, a, od, rfl, .inl ⟨_, upd_same, fun D3 hD3 => ?_⟩⟩⟩
    refine lc_keysL (e3 _ _ ha) hD3 kl (fun _ => true) (fun x => .bl true) (fun x _ => rfl) (fun x _ H3 _ _ Q q => q) (fun x hx _ H3 f3 k3 Q q => ?_) (fun H4 f4 e4 h4 => ⟨f4, ?_⟩)
    · obtain ⟨z, hz, rfl⟩ := ks x hx
      have rb : Rd H3 b (.dK (dkF zs2 o)) := by
        by_cases zz : b = a
        · have h1 := e3 _ _ hb
          rw [zz, e3 _ _ ha] at h1
          have h2 := Option.some.inj h1
          rw [← h2, zz]
          exact .inr ⟨od, f3⟩
        · exact .inl (k3 b _ zz (e3 _ _ hb))
      refine ⟨_, rfl, _, rfl, b, some (.int (o z)), rfl, .inl ⟨_, .inr z, rb, rfl, ?_⟩, q⟩
      exact (dkF_val (N.pm.nodup_iff.mpr N.nd) o (N.pm.mem_iff.mpr hz)).symm
    generalize upd H4 a (.dK (dkF zs g)) = H4' at *
    rw [bs] at h4
    refine ⟨D3, _, rfl, .inl (.inl h4), _, rfl, ?_⟩
    rw [ball]
    refine iteF ?_
    have e4 := e3.trans e4
    -- prices
    refine ⟨_, rfl, a, _, rfl, e4 _ _ ha, fun p1 hp1 => ?_⟩
    have e5 := e4.trans (same_new (o := .lst ((dkF zs g).map (·.2))) hp1)
    refine ⟨_, rfl, b, _, rfl, e5 _ _ hb, fun p2 hp2 => ⟨p1, p2, (dkF zs g).map (·.2), (dkF zs2 o).map (·.2), rfl, rfl, ?_, upd_same, ?_, fun p3 hp3 => ?_⟩⟩
    · rw [upd_ne (ne_of_none upd_same hp2), upd_same]
    · have := N.le
      have : 1000 ≤ sizeLine := by decide
      simp only [List.length_map, lz, lz2]
      omega
    have e6 := e5.trans (same_new (o := .lst ((dkF zs2 o).map (·.2))) hp2)
    have e7 := e6.trans (same_new (o := .lst ((dkF zs g).map (·.2) ++ (dkF zs2 o).map (·.2))) hp3)
    refine ⟨p3, rfl, ⟨_, .inl (.inl upd_same)⟩, fun D4 hD4 => ?_⟩
    refine lc_lstE (.inl (.inl upd_same)) hD4 (by have := N.le; simp only [List.length_append, List.length_map, lz, lz2]; omega) (fun _ => true) (fun x => .bl true) (fun x _ => rfl) (fun x _ H2 e2 Q q => q _ (Same.refl _)) (fun x hx _ H2 e2 Q q => ?_) (fun H8 e8 h8 => ?_)
    · have hx' : ∃ n, x = .int n ∧ 1 ≤ n ∧ n ≤ 9 := by
        rcases List.mem_append.mp hx with hx | hx
        · unfold dkF at hx
          rw [List.map_map] at hx
          obtain ⟨z, hz, rfl⟩ := List.mem_map.mp hx
          exact ⟨_, rfl, N.pg z hz⟩
        · unfold dkF at hx
          rw [List.map_map] at hx
          obtain ⟨z, hz, rfl⟩ := List.mem_map.mp hx
          exact ⟨_, rfl, N.po z (N.pm.mem_iff.mp hz)⟩
      obtain ⟨n, rfl, n1, n2⟩ := hx'
      refine ⟨_, rfl, .int n, 9, rfl, .inl ⟨n, rfl, ?_⟩⟩
      rw [isInt_of (by omega) (by omega), decide_eq_true n1, decide_eq_true n2]
      exact q _ (Same.refl _)
    have b8 : (((((dkF zs g).map (·.2) ++ (dkF zs2 o).map (·.2)).filter fun _ => true).map fun _ => V.bl true)) = (List.replicate (zs.length + zs.length) true).map V.bl := by
      rw [filter_all]
      simp only [List.map_const', List.length_append, List.length_map, lz, lz2, List.map_replicate]
    rw [b8] at h8
    refine ⟨D4, _, rfl, .inl (.inl h8), _, rfl, ?_⟩
    rw [ball]
    refine iteF ?_
    have e8 := e7.trans e8
    -- swaps
    refine ⟨c, _, e8 _ _ hc, trivial, fun od => ⟨_, rfl, c, od, _, rfl, upd_same, fun D5 hD5 => ?_⟩⟩
    have nDc : D5 ≠ c := fun z => by rw [z, upd_same] at hD5; cases hD5
    have hD5' : H8 D5 = none := by rw [upd_ne nDc] at hD5; exact hD5
    have nca : c ≠ a := fun z => by rw [z, ha] at hc; cases hc
    refine lc_it walk_itemsT (fun i H' => Same H8 (upd H' c (.dT (dtF ps))) ∧ H' c = some (.frz od (.dT (dtF ps))) ∧ H' D5 = some (.lst ((List.replicate i true).map V.bl))) ⟨?_, by rw [upd_ne nDc.symm, upd_same], upd_same⟩ (fun i H' _ e => e.2.1) (fun i x H1 H2 hi e y => ?_) (fun H9 e => ?_)
    · exact (same_lock (e8 _ _ hc) hD5).1
    · obtain ⟨e9, f9, h9⟩ := e
      obtain ⟨T, k, v, q, hkv, rfl, hT, hq, rfl⟩ := y
      have nT : T ≠ c := fun z => by rw [z, f9] at hT; cases hT
      have nTD : T ≠ D5 := fun z => by rw [z, h9] at hT; cases hT
      unfold dtF at hkv
      rw [List.getElem?_map] at hkv
      obtain ⟨⟨⟨z1, z2⟩, n⟩, hx, ekv⟩ := Option.map_eq_some_iff.mp hkv
      cases ekv
      obtain ⟨i1, i2, ne, n1, n2⟩ := N.sp _ (List.mem_of_getElem? hx)
      refine ⟨T, [.ref q, .int n], rfl, .inl (.inl upd_same), rfl, _, _, rfl, _, _, rfl, rfl, rfl, yes_q (iteT ?_)⟩
      have hq2 : upd H1 T (.tup [.ref q, .int n]) q = some (.tup [.str z1, .str z2]) := by rw [upd_ne (ne_of_none hq hT)]; exact hq
      have ha2 : upd H1 T (.tup [.ref q, .int n]) a = some (.dK (dkF zs g)) := by
        have z := e9 _ _ (e8 _ _ ha)
        rw [upd_ne nca.symm] at z
        rw [upd_ne (ne_of_none z hT)]
        exact z
      refine ⟨_, rfl, _, rfl, q, a, z1, z2, _, rfl, .inl (.inl hq2), ha2, isSign_one (N.sg _ i1), isSign_one (N.sg _ i2), ⟨_, dkF_val N.nd g i1⟩, ⟨_, dkF_val N.nd g i2⟩, ne, fun H3 e3 => ⟨_, rfl, iteT ?_⟩⟩
      refine ⟨_, rfl, .int n, 18, rfl, .inl ⟨n, rfl, ?_⟩⟩
      rw [isInt_of (by omega) (by omega), decide_eq_true n1, decide_eq_true n2]
      have D3 : H3 D5 = some (.lst ((List.replicate i true).map V.bl)) := e3 _ _ (by rw [upd_ne nTD.symm]; exact h9)
      refine ⟨_, D3, ?_, ?_, ?_, ?_⟩
      · have : 1000 ≤ sizeLine := by decide
        have := N.sl
        have hi' : i < (dtF ps).length := hi
        simp [dtF] at hi' ⊢
        omega
      · intro y u hu
        have hu2 := e9 _ _ hu
        by_cases yc : y = c
        · subst yc; rw [upd_same] at hu2 ⊢; exact hu2
        · rw [upd_ne yc] at hu2 ⊢
          have yD : y ≠ D5 := fun z => by rw [z, hD5'] at hu; cases hu
          rw [upd_ne yD]
          exact e3 _ _ (by rw [upd_ne (ne_of_none hu2 hT)]; exact hu2)
      · rw [upd_ne nDc.symm]
        exact e3 _ _ (by rw [upd_ne nT.symm]; exact f9)
      · rw [upd_same, List.replicate_succ', List.map_append]
        rfl
    · obtain ⟨e9, f9, h9⟩ := e
      refine ⟨f9, D5, _, rfl, .inl (.inl (show upd H9 c (.dT (dtF ps)) D5 = some (.lst ((List.replicate (dtF ps).length true).map V.bl)) by rw [upd_ne nDc]; exact h9)), ?_⟩
      rw [ball]
      exact hQ _ (e8.trans e9)
def spPInit2 (C : Addr) : Sp := fun vs H Q _ => ∃ x dx a b c zs zs2 g o ps, vs = [.ref x, .ref a, .ref b, .ref c] ∧ H x = some (.ins C dx []) ∧ H dx = some (.own x) ∧ dx ≠ x ∧
  H a = some (.dK (dkF zs g)) ∧ H b = some (.dK (dkF zs2 o)) ∧ H c = some (.dT (dtF ps)) ∧ PrN zs zs2 g o ps ∧
  ∀ H' ys ys2 qs, Kp x dx H H' → PrAt C H' x dx ys ys2 g o qs → PrN ys ys2 g o qs → ys.Perm zs → sortedS ys = true → qs.Perm ps → Q .non H'
abbrev N_pinit2 : List Str := ["self", "put", "out", "swap", "sign", "pair"]
theorem sc_pinit2 : FnScope N_pinit2 ["self", "put", "out", "swap"] (defScope (inClass (top 25) 1)) := ⟨rfl, rfl, rfl, by decide +kernel, rfl, by decide +kernel, by decide +kernel⟩
theorem f_pinit2 {C f : Addr} {fd : FuncData} (PC : SlotC K C) (F : FunAt K "__init__" "Prices.__init__" (inClass (top 25) 1) [] f fd) (B : Blt mg) (c_are_prices : Cal P w K mg base 3 "are_prices" spAreP2) : FnOk P w K mg base CX0 4 f fd ["self", "put", "out", "swap"] (spPInit2 C) := by
  refine fnok_of F sc_pinit2 (fun vs H Q E h => ?_) (fun cdv A outer s H vs Q E hr h => ?_)
  · obtain ⟨_, _, _, _, _, _, _, _, _, _, rfl, _⟩ := h; rfl
  · obtain ⟨x, dx, a, b, c, zs, zs2, g, o, ps, rfl, hx, hdx, dxx, ha, hb, hc, N, hQ⟩ := h
    obtain ⟨p0, s0⟩ := PC.s0
    obtain ⟨p1, s1⟩ := PC.s1
    obtain ⟨p2, s2⟩ := PC.s2
    refine ⟨_, pss_cons (ps_if (pt_not (pt_val (pe_c c_are_prices hr (by decide) (by rfl) (pa_cons (pv 1) (pa_cons (pv 2) (pa_cons (pv 3) pa_nil)))))) (pss_one ps_never) pss_nil)
      (pss_cons (SlX.ps_sl (pv 0) (pe_dp1 (own := [("sign", 4)]) (o0 := .dK []) (g := gName 4) (tt := tYes) rfl (hu_of hr) sc_pinit2.nd (pi_list (pe_callB cr_sortedS (by rfl) B.sorted (by decide +kernel) (pa_cons (pe_callTy (call_list_dK rfl) (by rfl) B.list (by decide +kernel) (pa_cons (pv 1) pa_nil)) pa_nil)))
        (blkOk_by (own := [("sign", 4)]) (N := N_pinit2) (sc := defScope (inClass (top 25) 1)) (by decide +kernel)) (fun _ _ _ _ _ => (pg_name (i := 4) sc_pinit2.nd rfl (Or.inl rfl))) (fun _ _ _ _ _ => pts_nil) (fun _ _ _ _ _ => pv 4) (fun _ _ _ _ _ => pe_dget (hu_of hr) (pv 1) (pv 4) (fun _ _ => rfl)) (.inl rfl)))
      (pss_cons (SlX.ps_sl (pv 0) (pe_dp1 (own := [("sign", 4)]) (o0 := .dK []) (g := gName 4) (tt := tYes) rfl (hu_of hr) sc_pinit2.nd (pi_list (pe_callB cr_sortedS (by rfl) B.sorted (by decide +kernel) (pa_cons (pe_callTy (call_list_dK rfl) (by rfl) B.list (by decide +kernel) (pa_cons (pv 1) pa_nil)) pa_nil)))
        (blkOk_by (own := [("sign", 4)]) (N := N_pinit2) (sc := defScope (inClass (top 25) 1)) (by decide +kernel)) (fun _ _ _ _ _ => (pg_name (i := 4) sc_pinit2.nd rfl (Or.inl rfl))) (fun _ _ _ _ _ => pts_nil) (fun _ _ _ _ _ => pv 4) (fun _ _ _ _ _ => pe_dget (hu_of hr) (pv 2) (pv 4) (fun _ _ => rfl)) (.inl rfl)))
      (pss_one (SlX.ps_sl (pv 0) (pe_dp1 (own := [("pair", 5)]) (o0 := .dT []) (g := gName 5) (tt := tYes) rfl (hu_of hr) sc_pinit2.nd (pi_list (pe_callB (cr_sortedD hr.units) (by rfl) B.sorted (by decide +kernel) (pa_cons (pe_callTy (call_list_dT rfl) (by rfl) B.list (by decide +kernel) (pa_cons (pv 3) pa_nil)) pa_nil)))
        (blkOk_by (own := [("pair", 5)]) (N := N_pinit2) (sc := defScope (inClass (top 25) 1)) (by decide +kernel)) (fun _ _ _ _ _ => (pg_name (i := 5) sc_pinit2.nd rfl (Or.inl rfl))) (fun _ _ _ _ _ => pts_nil) (fun _ _ _ _ _ => pv 5) (fun _ _ _ _ _ => pe_dget (hu_of hr) (pv 3) (pv 5) (fun _ _ => rfl)) (.inr rfl)))))), ?_⟩
    refine ⟨_, rfl, _, rfl, _, rfl, a, b, c, zs, zs2, g, o, ps, rfl, ha, hb, hc, N, fun H1 e1 => ⟨_, rfl, iteF ?_⟩⟩
    have keyz : ∀ f : Str → Int, (dkF zs f).map (fun kv => kV kv.1) = zs.map V.str := fun f => by unfold dkF; rw [List.map_map]; rfl
    have l64 : zs.length < 64 := by have := N.le; omega
    have apart : ∀ {t : Addr} {kvs : List (Key × V)}, H t = some (.dK kvs) → t ≠ x ∧ t ≠ dx := fun h => ⟨fun z => (by rw [z, hx] at h; cases h), fun z => (by rw [z, hdx] at h; cases h)⟩
    have cx : c ≠ x := fun z => by rw [z, hx] at hc; cases hc
    have cd : c ≠ dx := fun z => by rw [z, hdx] at hc; cases hc
    obtain ⟨ax, ad⟩ := apart ha
    obtain ⟨bx, bd⟩ := apart hb
    have k1 : Kp x dx H H1 := fun b o _ _ q => e1 _ _ q
    -- own_put
    refine ⟨_, rfl, a, _, rfl, k1 _ _ ax ad ha, fun q hq => ⟨q, zs, rfl, .inl (.inl (by rw [keyz]; exact upd_same)), l64, fun ys p hys hso hp => ?_⟩⟩
    refine ⟨p, rfl, ⟨_, .inl (.inl upd_same)⟩, fun D hD => ?_⟩
    have e2 : Same H1 (upd (upd H1 q (.lst ((dkF zs g).map fun kv => kV kv.1))) p (.lst (ys.map V.str))) := (same_new hq).trans (same_new hp)
    refine dp_signs (.inl (.inl upd_same)) (hys.nodup_iff.mpr N.nd) (by have := hys.length_eq; omega) hD g (fun _ _ => rfl) (fun y _ H2 _ Q q => ⟨_, rfl, q⟩) (fun y hy H2 e Q q => ⟨_, rfl, _, rfl, a, .int (g y), rfl, .inl ⟨_, .inr y, .inl (e _ _ (e2 _ _ (k1 _ _ ax ad ha))), rfl, (dkF_val N.nd g (hys.mem_iff.mp hy)).symm⟩, q _ (Same.refl _)⟩) (fun H2 e3 hD2 => ?_)
    have e4 := e2.trans e3
    refine ⟨_, rfl, x, C, dx, p1, [], 1, rfl, .inl ⟨e4 _ _ (e1 _ _ hx), rfl⟩, PC.sc, s1, ?_⟩
    have fD : H1 D = none := e2.free hD
    have Dx : D ≠ x := (ne_of_none (e1 _ _ hx) fD).symm
    have Dd : D ≠ dx := (ne_of_none (e1 _ _ hdx) fD).symm
    have k3 : Kp x dx H (SlX.slH H2 x C dx (SlX.putS 1 (.ref D) [])) := (k1.same e4).sl
    have z3 : Sl2 (SlX.slH H2 x C dx (SlX.putS 1 (.ref D) [])) x C dx (SlX.putS 1 (.ref D) []) := slH_sl2 dxx
    have w3 : (SlX.putS 1 (.ref D) [])[1]? = some (some (.ref D)) := SlX.putS_get _ _ _
    have hD3 : SlX.slH H2 x C dx (SlX.putS 1 (.ref D) []) D = some (.dK (dkF ys g)) := by rw [SlX.slH_ne Dx Dd]; exact hD2
    generalize SlX.putS 1 (.ref D) [] = v3 at *
    generalize SlX.slH H2 x C dx v3 = H3 at *
    clear hD hD2 fD hp hq e2 e3 e4 k1 e1
    -- own_out
    refine ⟨_, rfl, a, _, rfl, k3 _ _ ax ad ha, fun q hq => ⟨q, zs, rfl, .inl (.inl (by rw [keyz]; exact upd_same)), l64, fun ys2 p hys2 _ hp => ?_⟩⟩
    refine ⟨p, rfl, ⟨_, .inl (.inl upd_same)⟩, fun D5 hD5 => ?_⟩
    have e2 : Same H3 (upd (upd H3 q (.lst ((dkF zs g).map fun kv => kV kv.1))) p (.lst (ys2.map V.str))) := (same_new hq).trans (same_new hp)
    refine dp_signs (.inl (.inl upd_same)) (hys2.nodup_iff.mpr N.nd) (by have := hys2.length_eq; omega) hD5 o (fun _ _ => rfl) (fun y _ H2 _ Q q => ⟨_, rfl, q⟩) (fun y hy H2 e Q q => ⟨_, rfl, _, rfl, b, .int (o y), rfl, .inl ⟨_, .inr y, .inl (e _ _ (e2 _ _ (k3 _ _ bx bd hb))), rfl, (dkF_val (N.pm.nodup_iff.mpr N.nd) o (N.pm.mem_iff.mpr (hys2.mem_iff.mp hy))).symm⟩, q _ (Same.refl _)⟩) (fun H4 e3 hD6 => ?_)
    have e4 := e2.trans e3
    refine ⟨_, rfl, x, C, dx, p0, v3, 0, rfl, slt_same e4 (.inr z3), PC.sc, s0, ?_⟩
    have fD : H3 D5 = none := e2.free hD5
    have D5x : D5 ≠ x := (ne_of_none z3.1 fD).symm
    have D5d : D5 ≠ dx := (ne_of_none z3.2 fD).symm
    have n5 : D ≠ D5 := ne_of_none hD3 fD
    have k5 : Kp x dx H (SlX.slH H4 x C dx (SlX.putS 0 (.ref D5) v3)) := (k3.same e4).sl
    have z5 : Sl2 (SlX.slH H4 x C dx (SlX.putS 0 (.ref D5) v3)) x C dx (SlX.putS 0 (.ref D5) v3) := slH_sl2 dxx
    have w5 : (SlX.putS 0 (.ref D5) v3)[0]? = some (some (.ref D5)) := SlX.putS_get _ _ _
    have w5' : (SlX.putS 0 (.ref D5) v3)[1]? = some (some (.ref D)) := (SlX.putS_ne (by decide)).mpr w3
    have hD7 : SlX.slH H4 x C dx (SlX.putS 0 (.ref D5) v3) D5 = some (.dK (dkF ys2 o)) := by rw [SlX.slH_ne D5x D5d]; exact hD6
    have hD8 : SlX.slH H4 x C dx (SlX.putS 0 (.ref D5) v3) D = some (.dK (dkF ys g)) := by rw [SlX.slH_ne Dx Dd]; exact e4 _ _ hD3
    generalize SlX.putS 0 (.ref D5) v3 = v5 at *
    generalize SlX.slH H4 x C dx v5 = H5 at *
    clear hD5 hD6 fD hp hq e2 e3 e4 k3 z3 w3 hD3
    -- own_swap
    refine ⟨_, rfl, c, _, rfl, .inl (k5 _ _ cx cd hc), fun q bs hq hbs => ?_⟩
    obtain ⟨F0, f1, f2, f3⟩ := keys_zip hbs
    have up1 := same_new (o := .lst (bs.map V.ref)) hq
    refine ⟨q, F0.map fun e => (V.ref e.2, PyData.tuple [.str e.1.1.1, .str e.1.1.2]), rfl, .inl (.inl ?_), fun y hy => ?_, fun d1 h1 d2 h2 => ?_, .inl fun d hd => ?_, fun y hy => ?_, fun p hp => ?_⟩
    · rw [upd_same, List.map_map, ← f2, List.map_map]; rfl
    · obtain ⟨e, he, rfl⟩ := List.mem_map.mp hy
      exact dpT (zs := [e.1.1.1, e.1.1.2]) (.inl (.inl (up1 _ _ (f3 e he))))
    · rw [List.map_map] at h1 h2
      obtain ⟨e1, _, rfl⟩ := List.mem_map.mp h1
      obtain ⟨e2, _, rfl⟩ := List.mem_map.mp h2
      rfl
    · rw [List.map_map] at hd
      obtain ⟨e1, _, rfl⟩ := List.mem_map.mp hd
      exact ⟨_, _, rfl⟩
    · obtain ⟨e, he, rfl⟩ := List.mem_map.mp hy
      show PyData.depth _ ≤ 8
      simp [PyData.depth, PyData.depthAll]
    obtain ⟨F', pF, eF⟩ := perm_map_ex (List.mergeSort_perm (F0.map fun e => (V.ref e.2, PyData.tuple [.str e.1.1.1, .str e.1.1.2])) (PySem.W.dataLe false Prod.snd))
    rw [eF, List.map_map] at *
    have pq : (F'.map Prod.fst).Perm ps := by rw [← f1]; exact pF.map _
    have up2 := up1.trans (same_new (o := .lst (F'.map (Prod.fst ∘ fun e : ((Str × Str) × Int) × Addr => (V.ref e.2, PyData.tuple [.str e.1.1.1, .str e.1.1.2])))) hp)
    refine ⟨p, rfl, ⟨_, .inl (.inl upd_same)⟩, fun D9 hD9 => ?_⟩
    refine dp_pairs (F := F') (.inl (.inl upd_same)) ((pq.map _).nodup_iff.mpr N.sn) ?_ (fun e he => up2 _ _ (f3 e (pF.mem_iff.mp he))) hD9 (fun _ _ => rfl) (fun y _ H2 _ Q q => ⟨_, rfl, q⟩) (fun y hy H2 e Q q => ⟨_, rfl, _, rfl, c, .int y.1.2, rfl, .inr ⟨_, [.inr y.1.1.1, .inr y.1.1.2], y.2, .inl (e _ _ (up2 _ _ (k5 _ _ cx cd hc))), rfl, e _ _ (up2 _ _ (f3 y (pF.mem_iff.mp hy))), (dtF_val N.sn (pq.mem_iff.mp (List.mem_map.mpr ⟨y, hy, rfl⟩))).symm⟩, q _ (Same.refl _)⟩) (fun H6 e6 hD6 => ?_)
    · have := N.sl
      have := pq.length_eq
      rw [List.length_map] at this
      omega
    have e7 := up2.trans e6
    have z7 := z5
    refine ⟨_, rfl, x, C, dx, p2, v5, 2, rfl, slt_same e7 (.inr z5), PC.sc, s2, ?_⟩
    have fD : H5 D9 = none := up2.free hD9
    have D9x : D9 ≠ x := (ne_of_none z5.1 fD).symm
    have D9d : D9 ≠ dx := (ne_of_none z5.2 fD).symm
    refine hQ _ ys ys2 (F'.map Prod.fst) (k5.same e7).sl ⟨D, D5, D9, _, slH_sl2 dxx, (SlX.putS_ne (by decide)).mpr w5', (SlX.putS_ne (by decide)).mpr w5, SlX.putS_get _ _ _, n5, ?_, ?_, ?_⟩ (N.perm hys hys2 pq) hys hso pq
    · rw [SlX.slH_ne Dx Dd]; exact e7 _ _ hD8
    · rw [SlX.slH_ne D5x D5d]; exact e7 _ _ hD7
    · rw [SlX.slH_ne D9x D9d]; exact hD6
end
end MN
/-! are_prices of prices that may be too great (made of part Are25) -/
namespace MN
open PySem PySem.Spec PyProof.Rows L2
/-- prices, with no greatest one -/
structure PrM (zs zs2 : List Str) (g o : Str → Int) (ps : List ((Str × Str) × Int)) : Prop where
  sg : ∀ z ∈ zs, ∃ c ∈ ("abcde" : Str).cps.toList, z = ⟨#[c]⟩
  nd : zs.Nodup
  pos : 0 < zs.length
  le : zs.length ≤ 5
  pm : zs2.Perm zs
  pg : ∀ z ∈ zs, 1 ≤ g z
  po : ∀ z ∈ zs, 1 ≤ o z
  sn : (ps.map Prod.fst).Nodup
  sp : ∀ x ∈ ps, x.1.1 ∈ zs ∧ x.1.2 ∈ zs ∧ x.1.1 ≠ x.1.2 ∧ 1 ≤ x.2
  sl : ps.length ≤ 100
/-- none is too great -/
def fitsP (zs zs2 : List Str) (g o : Str → Int) (ps : List ((Str × Str) × Int)) : Bool := (zs.map g ++ zs2.map o).all (fun n => decide (n ≤ 9)) && ps.all (fun x => decide (x.2 ≤ 18))
def fit9 : V → V
  | .int n => .bl (decide (n ≤ 9))
  | _ => .bl true
theorem fit_one {n m : Int} (h : 1 ≤ n) (hm : m ≤ 18) : (isInt n && (decide (1 ≤ n) && decide (n ≤ m))) = decide (n ≤ m) := by
  rw [decide_eq_true h, Bool.true_and]
  by_cases q : n ≤ m
  · rw [isInt_of (by omega) (by omega), decide_eq_true q]; rfl
  · rw [decide_eq_false q, Bool.and_false]
section
variable {P : Program} {w : World} {K : PySem.W.Frag} {mg : Str → Option Value} {base : Heap}
def spAreP3 : Sp := fun vs H Q _ => ∃ a b c zs zs2 g o ps, vs = [.ref a, .ref b, .ref c] ∧ H a = some (.dK (dkF zs g)) ∧ H b = some (.dK (dkF zs2 o)) ∧ H c = some (.dT (dtF ps)) ∧ PrM zs zs2 g o ps ∧ ∀ H', Same H H' → Q (.bl (fitsP zs zs2 g o ps)) H'
abbrev N_are_prices3 : List Str := ["put", "out", "swap", "table", "sign", "price", "pair"]
theorem sc_are_prices3 : FnScope N_are_prices3 ["put", "out", "swap"] (defScope (top 21)) := ⟨rfl, rfl, rfl, by decide +kernel, rfl, by decide +kernel, by decide +kernel⟩
theorem c_are_prices3 (A : At K mg "are_prices" (top 21)) (B : Blt mg) (G1 : GlC mg "MAX_PRICE" (.int 9)) (G2 : GlC mg "MAX_SWAP" (.int 18)) (c_is_sign : Cal P w K mg base 1 "is_sign" (spIsSign K)) (c_is_price : Cal P w K mg base 2 "is_price" (spIsPrice K)) (c_is_pair : Cal P w K mg base 2 "is_pair" (spIsPair K)) : Cal P w K mg base 3 "are_prices" spAreP3 := by
  refine cal_of A sc_are_prices3 (fun _ _ _ _ _ _ us hl => match us, hl with | [_, _, _], _ => rfl) (fun vs H Q E h => ?_) (fun f cdv A outer s H vs Q E hr h => ?_)
  · obtain ⟨_, _, _, _, _, _, _, _, rfl, _⟩ := h; rfl
  · obtain ⟨a, b, c, zs, zs2, g, o, ps, rfl, ha, hb, hc, N, hQ⟩ := h
    refine ⟨_, (pss_cons (ps_if (PW.pt (pw_or (pt_not (pt_val (pe_callB (cr_all rfl) (by rfl) B.all (by decide +kernel) (pa_cons (pe_lc (own := [("table", 3)]) (g := gName 3) (tt := tYes) (by rfl) sc_are_prices3.nd (pi_tup (pe_tup (pa_cons (pv 0) (pa_cons (pv 1) (pa_cons (pv 2) pa_nil))))) (blkOk_by (own := [("table", 3)]) (N := N_are_prices3) (sc := defScope (top 21)) (by decide +kernel)) (fun _ _ _ _ _ => (pg_name (i := 3) sc_are_prices3.nd rfl (Or.inl rfl))) (fun _ _ _ _ _ => pts_nil) (fun _ _ _ _ _ => (pe_callB (isSK (K := K) rfl) (by rfl) B.isinstance (by decide +kernel) (pa_cons (pv 3) (pa_cons (pe_bltn (v := .ty "dict") (by rfl) B.dict (by decide +kernel) rfl) pa_nil))))) pa_nil)))) (pw_or1 (pt_cmpR op_eq (pe_callB call_lenD (by rfl) B.len (by decide +kernel) (pa_cons (pv 0) pa_nil)) pe_int (nomark _)))))
      (pss_one (ps_ret pe_bl))
      pss_nil)
      (pss_cons (ps_if (PW.pt (pw_or (pt_not (pt_val (pe_callB (cr_all rfl) (by rfl) B.all (by decide +kernel) (pa_cons (pe_lock (pe_lc (own := [("sign", 4)]) (g := gName 4) (tt := tYes) (by rfl) sc_are_prices3.nd (pi_keys (pv 0)) (blkOk_by (own := [("sign", 4)]) (N := N_are_prices3) (sc := defScope (top 21)) (by decide +kernel)) (fun _ _ _ _ _ => (pg_name (i := 4) sc_are_prices3.nd rfl (Or.inl rfl))) (fun _ _ _ _ _ => pts_nil) (fun _ _ _ _ _ => (pe_c c_is_sign hr (by decide) (by rfl) (pa_cons (pv 4) pa_nil))))) pa_nil)))) (pw_or (pt_cmpR op_ne (pe_callB call_lenD (by rfl) B.len (by decide +kernel) (pa_cons (pv 0) pa_nil)) (pe_callB call_lenD (by rfl) B.len (by decide +kernel) (pa_cons (pv 1) pa_nil)) (nomark _)) (pw_or1 (pt_not (pt_val (pe_callB (cr_all rfl) (by rfl) B.all (by decide +kernel) (pa_cons (pe_lock (pe_lc (own := [("sign", 4)]) (g := gName 4) (tt := tYes) (by rfl) sc_are_prices3.nd (pi_keys (pv 0)) (blkOk_by (own := [("sign", 4)]) (N := N_are_prices3) (sc := defScope (top 21)) (by decide +kernel)) (fun _ _ _ _ _ => (pg_name (i := 4) sc_are_prices3.nd rfl (Or.inl rfl))) (fun _ _ _ _ _ => pts_nil) (fun _ _ _ _ _ => (pe_cmp (pc_din (hu_of hr) (pv 4) (pv 1)))))) pa_nil))))))))
        (pss_one (ps_ret pe_bl))
        pss_nil)
      (pss_cons (ps_if (pt_not (pt_val (pe_callB (cr_all rfl) (by rfl) B.all (by decide +kernel) (pa_cons (pe_lc (own := [("price", 5)]) (g := gName 5) (tt := tYes) (by rfl) sc_are_prices3.nd (pi_list (pe_op op_cat (pe_listVals rfl (pv 0) (by rfl) B.list) (pe_listVals rfl (pv 1) (by rfl) B.list))) (blkOk_by (own := [("price", 5)]) (N := N_are_prices3) (sc := defScope (top 21)) (by decide +kernel)) (fun _ _ _ _ _ => (pg_name (i := 5) sc_are_prices3.nd rfl (Or.inl rfl))) (fun _ _ _ _ _ => pts_nil) (fun _ _ _ _ _ => (pe_c c_is_price hr (by decide) (by rfl) (pa_cons (pv 5) (pa_cons (pe_gl (by rfl) G1) pa_nil))))) pa_nil))))
        (pss_one (ps_ret pe_bl))
        pss_nil)
      (pss_one (ps_ret (pe_callB (cr_all rfl) (by rfl) B.all (by decide +kernel) (pa_cons (pe_lock (pe_lc (own := [("pair", 6), ("price", 5)]) (tt := tYes) (by rfl) sc_are_prices3.nd (pi_itemsT (pv 2)) (blkOk_by (own := [("pair", 6), ("price", 5)]) (N := N_are_prices3) (sc := defScope (top 21)) (by decide +kernel)) (fun _ _ _ _ _ => (pg_tupK (K := K) (n := 2) rfl rfl (pgs_cons (pg_name (i := 6) sc_are_prices3.nd rfl (Or.inl rfl)) (pgs_cons (pg_name (i := 5) sc_are_prices3.nd rfl (Or.inl rfl)) pgs_nil)))) (fun _ _ _ _ _ => pts_nil) (fun _ _ _ _ _ => pe_and (pe_c c_is_pair hr (by decide) (by rfl) (pa_cons (pv 6) (pa_cons (pv 0) pa_nil))) (pe_one (pe_c c_is_price hr (by decide) (by rfl) (pa_cons (pv 5) (pa_cons (pe_gl (by rfl) G2) pa_nil))))))) pa_nil))))))), ?_⟩
    have lz : (dkF zs g).length = zs.length := by simp [dkF]
    have lz2 : (dkF zs2 o).length = zs.length := by simp [dkF, N.pm.length_eq]
    -- all are dicts
    refine ⟨_, rfl, _, rfl, _, rfl, (show 3 ≤ sizeLine by decide), fun p hp => ⟨p, rfl, ⟨_, .inl (.inl upd_same)⟩, fun D hD => ?_⟩⟩
    have e1 : Same H (upd H p (.tup [.ref a, .ref b, .ref c])) := same_new hp
    refine lc_tplE (.inl (.inl upd_same)) hD (show 3 ≤ 1000000 by decide) (fun _ => true) (fun x => .bl true) (fun x _ => rfl) (fun x _ H2 e2 Q q => q _ (Same.refl _)) (fun x hx _ H2 e2 Q q => ?_) (fun H2 e2 h2 => ?_)
    · refine ⟨_, rfl, x, "dict", true, rfl, ?_, q _ (Same.refl _)⟩
      have ea := e2 _ _ (e1 _ _ ha)
      have eb := e2 _ _ (e1 _ _ hb)
      have ec := e2 _ _ (e1 _ _ hc)
      have hx' : x = .ref a ∨ x = .ref b ∨ x = .ref c := by simpa using hx
      rcases hx' with rfl | rfl | rfl
      · exact .ty (.base (.dK ea)) (by decide +kernel)
      · exact .ty (.base (.dK eb)) (by decide +kernel)
      · exact .ty (.base (.dT ec)) (by decide +kernel)
    refine ⟨D, [true, true, true], rfl, .inl (.inl h2), _, rfl, iteF ?_⟩
    have e2 := e1.trans e2
    refine ⟨_, rfl, a, _, rfl, e2 _ _ ha, rfl, _, rfl, ?_⟩
    rw [show decide (V.int ((dkF zs g).length : Nat) = V.int 0) = false from decide_eq_false fun z => by have := N.pos; injection z with z; omega]
    refine iteF ?_
    have ks : ∀ x ∈ (dkF zs g).map (fun kv => kV kv.1), ∃ z ∈ zs, x = .str z := fun x hx => by
      unfold dkF at hx
      rw [List.map_map] at hx
      obtain ⟨z, hz, rfl⟩ := List.mem_map.mp hx
      exact ⟨z, hz, rfl⟩
    have kl : (dkF zs g).length ≤ 1000000 := by have := N.le; omega
    have bs : ((((dkF zs g).map fun kv => kV kv.1).filter fun _ => true).map fun _ => V.bl true) = (List.replicate zs.length true).map V.bl := by
      unfold dkF
      rw [filter_all, List.map_map, List.map_map, List.map_replicate]
      exact List.map_const' ..
    have ball : ∀ n, (List.replicate n true).all id = true := fun n => by simp
    -- all keys are signs
    refine ⟨a, _, e2 _ _ ha, trivial, fun od => ⟨_, rfl, a, od, rfl, .inl ⟨_, upd_same, fun D2 hD2 => ?_⟩⟩⟩
    refine lc_keysL (e2 _ _ ha) hD2 kl (fun _ => true) (fun x => .bl true) (fun x _ => rfl) (fun x _ H3 _ _ Q q => q) (fun x hx _ H3 f3 _ Q q => ?_) (fun H3 f3 e3 h3 => ⟨f3, ?_⟩)
    · obtain ⟨z, hz, rfl⟩ := ks x hx
      refine ⟨_, rfl, _, rfl, .str (by rw [len_one (N.sg z hz)]; decide), ?_⟩
      rw [isSign_one (N.sg z hz)]
      exact q
    generalize upd H3 a (.dK (dkF zs g)) = H3' at *
    rw [bs] at h3
    refine ⟨D2, _, rfl, .inl (.inl h3), _, rfl, ?_⟩
    rw [ball]
    refine iteF ?_
    have e3 := e2.trans e3
    refine ⟨_, rfl, a, _, rfl, e3 _ _ ha, _, rfl, b, _, rfl, e3 _ _ hb, rfl, _, rfl, ?_⟩
    rw [lz, lz2, show (!decide (V.int (zs.length : Nat) = V.int (zs.length : Nat))) = false by simp]
    refine iteF ?_
    -- all keys in out
    refine ⟨a, _, e3 _ _ ha, trivial, fun od => ⟨_, rfl, a, od, rfl, .inl ⟨_, upd_same, fun D3 hD3 => ?_⟩⟩⟩
    refine lc_keysL (e3 _ _ ha) hD3 kl (fun _ => true) (fun x => .bl true) (fun x _ => rfl) (fun x _ H3 _ _ Q q => q) (fun x hx _ H3 f3 k3 Q q => ?_) (fun H4 f4 e4 h4 => ⟨f4, ?_⟩)
    · obtain ⟨z, hz, rfl⟩ := ks x hx
      have rb : Rd H3 b (.dK (dkF zs2 o)) := by
        by_cases zz : b = a
        · have h1 := e3 _ _ hb
          rw [zz, e3 _ _ ha] at h1
          have h2 := Option.some.inj h1
          rw [← h2, zz]
          exact .inr ⟨od, f3⟩
        · exact .inl (k3 b _ zz (e3 _ _ hb))
      refine ⟨_, rfl, _, rfl, b, some (.int (o z)), rfl, .inl ⟨_, .inr z, rb, rfl, ?_⟩, q⟩
      exact (dkF_val (N.pm.nodup_iff.mpr N.nd) o (N.pm.mem_iff.mpr hz)).symm
    generalize upd H4 a (.dK (dkF zs g)) = H4' at *
    rw [bs] at h4
    refine ⟨D3, _, rfl, .inl (.inl h4), _, rfl, ?_⟩
    rw [ball]
    refine iteF ?_
    have e4 := e3.trans e4
    -- prices
    refine ⟨_, rfl, a, _, rfl, e4 _ _ ha, fun p1 hp1 => ?_⟩
    have e5 := e4.trans (same_new (o := .lst ((dkF zs g).map (·.2))) hp1)
    refine ⟨_, rfl, b, _, rfl, e5 _ _ hb, fun p2 hp2 => ⟨p1, p2, (dkF zs g).map (·.2), (dkF zs2 o).map (·.2), rfl, rfl, ?_, upd_same, ?_, fun p3 hp3 => ?_⟩⟩
    · rw [upd_ne (ne_of_none upd_same hp2), upd_same]
    · have := N.le
      have : 1000 ≤ sizeLine := by decide
      simp only [List.length_map, lz, lz2]
      omega
    have e6 := e5.trans (same_new (o := .lst ((dkF zs2 o).map (·.2))) hp2)
    have e7 := e6.trans (same_new (o := .lst ((dkF zs g).map (·.2) ++ (dkF zs2 o).map (·.2))) hp3)
    refine ⟨p3, rfl, ⟨_, .inl (.inl upd_same)⟩, fun D4 hD4 => ?_⟩
    refine lc_lstE (.inl (.inl upd_same)) hD4 (by have := N.le; simp only [List.length_append, List.length_map, lz, lz2]; omega) (fun _ => true) fit9 (fun x _ => rfl) (fun x _ H2 e2 Q q => q _ (Same.refl _)) (fun x hx _ H2 e2 Q q => ?_) (fun H8 e8 h8 => ?_)
    · have hx' : ∃ n, x = .int n ∧ 1 ≤ n := by
        rcases List.mem_append.mp hx with hx | hx
        · unfold dkF at hx
          rw [List.map_map] at hx
          obtain ⟨z, hz, rfl⟩ := List.mem_map.mp hx
          exact ⟨_, rfl, N.pg z hz⟩
        · unfold dkF at hx
          rw [List.map_map] at hx
          obtain ⟨z, hz, rfl⟩ := List.mem_map.mp hx
          exact ⟨_, rfl, N.po z (N.pm.mem_iff.mp hz)⟩
      obtain ⟨n, rfl, n1⟩ := hx'
      refine ⟨_, rfl, .int n, 9, rfl, .inl ⟨n, rfl, ?_⟩⟩
      rw [fit_one n1 (by decide)]
      exact q _ (Same.refl _)
    have b8 : (((((dkF zs g).map (·.2) ++ (dkF zs2 o).map (·.2)).filter fun _ => true).map fit9)) = ((zs.map g ++ zs2.map o).map fun n => decide (n ≤ 9)).map V.bl := by
      rw [filter_all]
      unfold dkF
      simp only [List.map_append, List.map_map]
      rfl
    rw [b8] at h8
    refine ⟨D4, _, rfl, .inl (.inl h8), _, rfl, ?_⟩
    have e8 := e7.trans e8
    unfold fitsP at hQ
    rw [List.all_map] at *
    cases f8 : (zs.map g ++ zs2.map o).all (id ∘ fun n => decide (n ≤ 9)) with
    | false =>
      refine iteT ?_
      rw [show (zs.map g ++ zs2.map o).all (fun n => decide (n ≤ 9)) = false from f8, Bool.false_and] at hQ
      exact hQ _ e8
    | true =>
    rw [show (zs.map g ++ zs2.map o).all (fun n => decide (n ≤ 9)) = true from f8, Bool.true_and] at hQ
    refine iteF ?_
    -- swaps
    refine ⟨c, _, e8 _ _ hc, trivial, fun od => ⟨_, rfl, c, od, _, rfl, upd_same, fun D5 hD5 => ?_⟩⟩
    have nDc : D5 ≠ c := fun z => by rw [z, upd_same] at hD5; cases hD5
    have hD5' : H8 D5 = none := by rw [upd_ne nDc] at hD5; exact hD5
    have nca : c ≠ a := fun z => by rw [z, ha] at hc; cases hc
    refine lc_it walk_itemsT (fun i H' => Same H8 (upd H' c (.dT (dtF ps))) ∧ H' c = some (.frz od (.dT (dtF ps))) ∧ H' D5 = some (.lst (((ps.take i).map fun x => decide (x.2 ≤ 18)).map V.bl))) ⟨?_, by rw [upd_ne nDc.symm, upd_same], by rw [List.take_zero]; exact upd_same⟩ (fun i H' _ e => e.2.1) (fun i x H1 H2 hi e y => ?_) (fun H9 e => ?_)
    · exact (same_lock (e8 _ _ hc) hD5).1
    · obtain ⟨e9, f9, h9⟩ := e
      obtain ⟨T, k, v, q, hkv, rfl, hT, hq, rfl⟩ := y
      have nT : T ≠ c := fun z => by rw [z, f9] at hT; cases hT
      have nTD : T ≠ D5 := fun z => by rw [z, h9] at hT; cases hT
      unfold dtF at hkv
      rw [List.getElem?_map] at hkv
      obtain ⟨⟨⟨z1, z2⟩, n⟩, hx, ekv⟩ := Option.map_eq_some_iff.mp hkv
      cases ekv
      obtain ⟨i1, i2, ne, n1⟩ := N.sp _ (List.mem_of_getElem? hx)
      refine ⟨T, [.ref q, .int n], rfl, .inl (.inl upd_same), rfl, _, _, rfl, _, _, rfl, rfl, rfl, yes_q (iteT ?_)⟩
      have hq2 : upd H1 T (.tup [.ref q, .int n]) q = some (.tup [.str z1, .str z2]) := by rw [upd_ne (ne_of_none hq hT)]; exact hq
      have ha2 : upd H1 T (.tup [.ref q, .int n]) a = some (.dK (dkF zs g)) := by
        have z := e9 _ _ (e8 _ _ ha)
        rw [upd_ne nca.symm] at z
        rw [upd_ne (ne_of_none z hT)]
        exact z
      refine ⟨_, rfl, _, rfl, q, a, z1, z2, _, rfl, .inl (.inl hq2), ha2, isSign_one (N.sg _ i1), isSign_one (N.sg _ i2), ⟨_, dkF_val N.nd g i1⟩, ⟨_, dkF_val N.nd g i2⟩, ne, fun H3 e3 => ⟨_, rfl, iteT ?_⟩⟩
      refine ⟨_, rfl, .int n, 18, rfl, .inl ⟨n, rfl, ?_⟩⟩
      rw [fit_one n1 (by decide)]
      have D3 : H3 D5 = some (.lst (((ps.take i).map fun x => decide (x.2 ≤ 18)).map V.bl)) := e3 _ _ (by rw [upd_ne nTD.symm]; exact h9)
      refine ⟨_, D3, ?_, ?_, ?_, ?_⟩
      · have : 1000 ≤ sizeLine := by decide
        have := N.sl
        have hi' : i < (dtF ps).length := hi
        simp [dtF] at hi' ⊢
        omega
      · intro y u hu
        have hu2 := e9 _ _ hu
        by_cases yc : y = c
        · subst yc; rw [upd_same] at hu2 ⊢; exact hu2
        · rw [upd_ne yc] at hu2 ⊢
          have yD : y ≠ D5 := fun z => by rw [z, hD5'] at hu; cases hu
          rw [upd_ne yD]
          exact e3 _ _ (by rw [upd_ne (ne_of_none hu2 hT)]; exact hu2)
      · rw [upd_ne nDc.symm]
        exact e3 _ _ (by rw [upd_ne nT.symm]; exact f9)
      · rw [upd_same, List.take_add_one, hx, List.map_append, List.map_append]
        rfl
    · obtain ⟨e9, f9, h9⟩ := e
      have ll : (dtF ps).length = ps.length := by simp [dtF]
      rw [ll, List.take_length] at h9
      refine ⟨f9, D5, _, rfl, .inl (.inl (show upd H9 c (.dT (dtF ps)) D5 = some (.lst ((ps.map fun x => decide (x.2 ≤ 18)).map V.bl)) by rw [upd_ne nDc]; exact h9)), ?_⟩
      rw [List.all_map]
      exact hQ _ (e8.trans e9)
end
end MN
/-! Prices.__init__: the order in which the own dicts stand -/
namespace MN
open PySem PySem.Spec PyProof.Rows L2
theorem sortKeysBy {α : Type} (key : α → Str × Str) {l : List α} (nd : (l.map key).Nodup) : (l.mergeSort (PySem.W.dataLe false fun e => .tuple [.str (key e).1, .str (key e).2])).Pairwise fun a b => kLt (key a) (key b) := by
  have h := msort_of (R := kLt) (le := PySem.W.dataLe false fun q : Str × Str => .tuple [.str q.1, .str q.2]) (fun a b => by
    show (!PySem.W.dataLt _ _) = true ↔ _
    rw [dataLt_ss, Bool.not_eq_true', decide_eq_false_iff_not]
    exact Iff.rfl) kLt_asym (fun a b c => kLt_trans) kLt_tri nd
  rw [← List.map_mergeSort (f := key) (l := l) (r := PySem.W.dataLe false fun e : α => .tuple [.str (key e).1, .str (key e).2]) (s := PySem.W.dataLe false fun q : Str × Str => .tuple [.str q.1, .str q.2]) (fun a _ b _ => rfl), List.pairwise_map] at h
  exact h
theorem sorted_sL {ys : List Str} (sg : ∀ z ∈ ys, ∃ c ∈ ("abcde" : Str).cps.toList, z = ⟨#[c]⟩) (nd : ys.Nodup) (hs : sortedS ys = true) : ys.Pairwise fun a b => sL a < sL b := by
  obtain ⟨cs, rfl⟩ : ∃ cs : List Nat, ys = cs.map one := by
    refine ⟨ys.map fun z => z.cps.toList.headD 0, ?_⟩
    rw [List.map_map]
    have : ys.map (one ∘ fun z => z.cps.toList.headD 0) = ys.map id := by
      apply List.map_congr_left
      intro z hz
      obtain ⟨c, _, rfl⟩ := sg z hz
      rfl
    rw [this, List.map_id]
  have h1 := sorted1 cs hs
  have h2 : cs.Pairwise (· ≠ ·) := by
    rw [List.Nodup, List.pairwise_map] at nd
    exact nd.imp fun {a b} h e => h (by rw [e])
  rw [List.pairwise_map]
  refine List.Pairwise.imp₂ (fun a b h h' => ?_) h1 h2
  show [a] < [b]
  exact List.cons_lt_cons_iff.mpr (.inl (Nat.lt_of_le_of_ne h h'))
section
variable {P : Program} {w : World} {K : PySem.W.Frag} {mg : Str → Option Value} {base : Heap}
def spPInit3 (C : Addr) : Sp := fun vs H Q _ => ∃ x dx a b c zs zs2 g o ps, vs = [.ref x, .ref a, .ref b, .ref c] ∧ H x = some (.ins C dx []) ∧ H dx = some (.own x) ∧ dx ≠ x ∧
  H a = some (.dK (dkF zs g)) ∧ H b = some (.dK (dkF zs2 o)) ∧ H c = some (.dT (dtF ps)) ∧ PrN zs zs2 g o ps ∧
  ∀ H' ys qs, Kp x dx H H' → PrAt C H' x dx ys ys g o qs → PrN ys ys g o qs → ys.Perm zs → (ys.Pairwise fun a b => sL a < sL b) → qs.Perm ps → (qs.Pairwise fun a b => kLt a.1 b.1) → Q .non H'
abbrev N_pinit3 : List Str := ["self", "put", "out", "swap", "sign", "pair"]
theorem sc_pinit3 : FnScope N_pinit3 ["self", "put", "out", "swap"] (defScope (inClass (top 25) 1)) := ⟨rfl, rfl, rfl, by decide +kernel, rfl, by decide +kernel, by decide +kernel⟩
theorem f_pinit3 {C f : Addr} {fd : FuncData} (PC : SlotC K C) (F : FunAt K "__init__" "Prices.__init__" (inClass (top 25) 1) [] f fd) (B : Blt mg) (c_are_prices : Cal P w K mg base 3 "are_prices" spAreP2) : FnOk P w K mg base CX0 4 f fd ["self", "put", "out", "swap"] (spPInit3 C) := by
  refine fnok_of F sc_pinit3 (fun vs H Q E h => ?_) (fun cdv A outer s H vs Q E hr h => ?_)
  · obtain ⟨_, _, _, _, _, _, _, _, _, _, rfl, _⟩ := h; rfl
  · obtain ⟨x, dx, a, b, c, zs, zs2, g, o, ps, rfl, hx, hdx, dxx, ha, hb, hc, N, hQ⟩ := h
    obtain ⟨p0, s0⟩ := PC.s0
    obtain ⟨p1, s1⟩ := PC.s1
    obtain ⟨p2, s2⟩ := PC.s2
    refine ⟨_, pss_cons (ps_if (pt_not (pt_val (pe_c c_are_prices hr (by decide) (by rfl) (pa_cons (pv 1) (pa_cons (pv 2) (pa_cons (pv 3) pa_nil)))))) (pss_one ps_never) pss_nil)
      (pss_cons (SlX.ps_sl (pv 0) (pe_dp1 (own := [("sign", 4)]) (o0 := .dK []) (g := gName 4) (tt := tYes) rfl (hu_of hr) sc_pinit3.nd (pi_list (pe_callB cr_sortedS (by rfl) B.sorted (by decide +kernel) (pa_cons (pe_callTy (call_list_dK rfl) (by rfl) B.list (by decide +kernel) (pa_cons (pv 1) pa_nil)) pa_nil)))
        (blkOk_by (own := [("sign", 4)]) (N := N_pinit3) (sc := defScope (inClass (top 25) 1)) (by decide +kernel)) (fun _ _ _ _ _ => (pg_name (i := 4) sc_pinit3.nd rfl (Or.inl rfl))) (fun _ _ _ _ _ => pts_nil) (fun _ _ _ _ _ => pv 4) (fun _ _ _ _ _ => pe_dget (hu_of hr) (pv 1) (pv 4) (fun _ _ => rfl)) (.inl rfl)))
      (pss_cons (SlX.ps_sl (pv 0) (pe_dp1 (own := [("sign", 4)]) (o0 := .dK []) (g := gName 4) (tt := tYes) rfl (hu_of hr) sc_pinit3.nd (pi_list (pe_callB cr_sortedS (by rfl) B.sorted (by decide +kernel) (pa_cons (pe_callTy (call_list_dK rfl) (by rfl) B.list (by decide +kernel) (pa_cons (pv 1) pa_nil)) pa_nil)))
        (blkOk_by (own := [("sign", 4)]) (N := N_pinit3) (sc := defScope (inClass (top 25) 1)) (by decide +kernel)) (fun _ _ _ _ _ => (pg_name (i := 4) sc_pinit3.nd rfl (Or.inl rfl))) (fun _ _ _ _ _ => pts_nil) (fun _ _ _ _ _ => pv 4) (fun _ _ _ _ _ => pe_dget (hu_of hr) (pv 2) (pv 4) (fun _ _ => rfl)) (.inl rfl)))
      (pss_one (SlX.ps_sl (pv 0) (pe_dp1 (own := [("pair", 5)]) (o0 := .dT []) (g := gName 5) (tt := tYes) rfl (hu_of hr) sc_pinit3.nd (pi_list (pe_callB (cr_sortedD hr.units) (by rfl) B.sorted (by decide +kernel) (pa_cons (pe_callTy (call_list_dT rfl) (by rfl) B.list (by decide +kernel) (pa_cons (pv 3) pa_nil)) pa_nil)))
        (blkOk_by (own := [("pair", 5)]) (N := N_pinit3) (sc := defScope (inClass (top 25) 1)) (by decide +kernel)) (fun _ _ _ _ _ => (pg_name (i := 5) sc_pinit3.nd rfl (Or.inl rfl))) (fun _ _ _ _ _ => pts_nil) (fun _ _ _ _ _ => pv 5) (fun _ _ _ _ _ => pe_dget (hu_of hr) (pv 3) (pv 5) (fun _ _ => rfl)) (.inr rfl)))))), ?_⟩
    refine ⟨_, rfl, _, rfl, _, rfl, a, b, c, zs, zs2, g, o, ps, rfl, ha, hb, hc, N, fun H1 e1 => ⟨_, rfl, iteF ?_⟩⟩
    have keyz : ∀ f : Str → Int, (dkF zs f).map (fun kv => kV kv.1) = zs.map V.str := fun f => by unfold dkF; rw [List.map_map]; rfl
    have l64 : zs.length < 64 := by have := N.le; omega
    have apart : ∀ {t : Addr} {kvs : List (Key × V)}, H t = some (.dK kvs) → t ≠ x ∧ t ≠ dx := fun h => ⟨fun z => (by rw [z, hx] at h; cases h), fun z => (by rw [z, hdx] at h; cases h)⟩
    have cx : c ≠ x := fun z => by rw [z, hx] at hc; cases hc
    have cd : c ≠ dx := fun z => by rw [z, hdx] at hc; cases hc
    obtain ⟨ax, ad⟩ := apart ha
    obtain ⟨bx, bd⟩ := apart hb
    have k1 : Kp x dx H H1 := fun b o _ _ q => e1 _ _ q
    -- own_put
    refine ⟨_, rfl, a, _, rfl, k1 _ _ ax ad ha, fun q hq => ⟨q, zs, rfl, .inl (.inl (by rw [keyz]; exact upd_same)), l64, fun ys p hys hso hp => ?_⟩⟩
    refine ⟨p, rfl, ⟨_, .inl (.inl upd_same)⟩, fun D hD => ?_⟩
    have e2 : Same H1 (upd (upd H1 q (.lst ((dkF zs g).map fun kv => kV kv.1))) p (.lst (ys.map V.str))) := (same_new hq).trans (same_new hp)
    refine dp_signs (.inl (.inl upd_same)) (hys.nodup_iff.mpr N.nd) (by have := hys.length_eq; omega) hD g (fun _ _ => rfl) (fun y _ H2 _ Q q => ⟨_, rfl, q⟩) (fun y hy H2 e Q q => ⟨_, rfl, _, rfl, a, .int (g y), rfl, .inl ⟨_, .inr y, .inl (e _ _ (e2 _ _ (k1 _ _ ax ad ha))), rfl, (dkF_val N.nd g (hys.mem_iff.mp hy)).symm⟩, q _ (Same.refl _)⟩) (fun H2 e3 hD2 => ?_)
    have e4 := e2.trans e3
    refine ⟨_, rfl, x, C, dx, p1, [], 1, rfl, .inl ⟨e4 _ _ (e1 _ _ hx), rfl⟩, PC.sc, s1, ?_⟩
    have fD : H1 D = none := e2.free hD
    have Dx : D ≠ x := (ne_of_none (e1 _ _ hx) fD).symm
    have Dd : D ≠ dx := (ne_of_none (e1 _ _ hdx) fD).symm
    have k3 : Kp x dx H (SlX.slH H2 x C dx (SlX.putS 1 (.ref D) [])) := (k1.same e4).sl
    have z3 : Sl2 (SlX.slH H2 x C dx (SlX.putS 1 (.ref D) [])) x C dx (SlX.putS 1 (.ref D) []) := slH_sl2 dxx
    have w3 : (SlX.putS 1 (.ref D) [])[1]? = some (some (.ref D)) := SlX.putS_get _ _ _
    have hD3 : SlX.slH H2 x C dx (SlX.putS 1 (.ref D) []) D = some (.dK (dkF ys g)) := by rw [SlX.slH_ne Dx Dd]; exact hD2
    generalize SlX.putS 1 (.ref D) [] = v3 at *
    generalize SlX.slH H2 x C dx v3 = H3 at *
    clear hD hD2 fD hp hq e2 e3 e4 k1 e1
    -- own_out
    refine ⟨_, rfl, a, _, rfl, k3 _ _ ax ad ha, fun q hq => ⟨q, zs, rfl, .inl (.inl (by rw [keyz]; exact upd_same)), l64, fun ys2 p hys2 hso2 hp => ?_⟩⟩
    have asc := sorted_sL (fun z hz => N.sg z (hys.mem_iff.mp hz)) (hys.nodup_iff.mpr N.nd) hso
    obtain rfl : ys2 = ys := pairwise_one (R := fun a b : Str => sL a < sL b) (fun a b h q => List.lt_asymm h q) (sorted_sL (fun z hz => N.sg z (hys2.mem_iff.mp hz)) (hys2.nodup_iff.mpr N.nd) hso2) asc fun z => by rw [hys2.mem_iff, hys.mem_iff]
    refine ⟨p, rfl, ⟨_, .inl (.inl upd_same)⟩, fun D5 hD5 => ?_⟩
    have e2 : Same H3 (upd (upd H3 q (.lst ((dkF zs g).map fun kv => kV kv.1))) p (.lst (ys2.map V.str))) := (same_new hq).trans (same_new hp)
    refine dp_signs (.inl (.inl upd_same)) (hys2.nodup_iff.mpr N.nd) (by have := hys2.length_eq; omega) hD5 o (fun _ _ => rfl) (fun y _ H2 _ Q q => ⟨_, rfl, q⟩) (fun y hy H2 e Q q => ⟨_, rfl, _, rfl, b, .int (o y), rfl, .inl ⟨_, .inr y, .inl (e _ _ (e2 _ _ (k3 _ _ bx bd hb))), rfl, (dkF_val (N.pm.nodup_iff.mpr N.nd) o (N.pm.mem_iff.mpr (hys2.mem_iff.mp hy))).symm⟩, q _ (Same.refl _)⟩) (fun H4 e3 hD6 => ?_)
    have e4 := e2.trans e3
    refine ⟨_, rfl, x, C, dx, p0, v3, 0, rfl, slt_same e4 (.inr z3), PC.sc, s0, ?_⟩
    have fD : H3 D5 = none := e2.free hD5
    have D5x : D5 ≠ x := (ne_of_none z3.1 fD).symm
    have D5d : D5 ≠ dx := (ne_of_none z3.2 fD).symm
    have n5 : D ≠ D5 := ne_of_none hD3 fD
    have k5 : Kp x dx H (SlX.slH H4 x C dx (SlX.putS 0 (.ref D5) v3)) := (k3.same e4).sl
    have z5 : Sl2 (SlX.slH H4 x C dx (SlX.putS 0 (.ref D5) v3)) x C dx (SlX.putS 0 (.ref D5) v3) := slH_sl2 dxx
    have w5 : (SlX.putS 0 (.ref D5) v3)[0]? = some (some (.ref D5)) := SlX.putS_get _ _ _
    have w5' : (SlX.putS 0 (.ref D5) v3)[1]? = some (some (.ref D)) := (SlX.putS_ne (by decide)).mpr w3
    have hD7 : SlX.slH H4 x C dx (SlX.putS 0 (.ref D5) v3) D5 = some (.dK (dkF ys2 o)) := by rw [SlX.slH_ne D5x D5d]; exact hD6
    have hD8 : SlX.slH H4 x C dx (SlX.putS 0 (.ref D5) v3) D = some (.dK (dkF ys2 g)) := by rw [SlX.slH_ne Dx Dd]; exact e4 _ _ hD3
    generalize SlX.putS 0 (.ref D5) v3 = v5 at *
    generalize SlX.slH H4 x C dx v5 = H5 at *
    clear hD5 hD6 fD hp hq e2 e3 e4 k3 z3 w3 hD3
    -- own_swap
    refine ⟨_, rfl, c, _, rfl, .inl (k5 _ _ cx cd hc), fun q bs hq hbs => ?_⟩
    obtain ⟨F0, f1, f2, f3⟩ := keys_zip hbs
    have up1 := same_new (o := .lst (bs.map V.ref)) hq
    refine ⟨q, F0.map fun e => (V.ref e.2, PyData.tuple [.str e.1.1.1, .str e.1.1.2]), rfl, .inl (.inl ?_), fun y hy => ?_, fun d1 h1 d2 h2 => ?_, .inl fun d hd => ?_, fun y hy => ?_, fun p hp => ?_⟩
    · rw [upd_same, List.map_map, ← f2, List.map_map]; rfl
    · obtain ⟨e, he, rfl⟩ := List.mem_map.mp hy
      exact dpT (zs := [e.1.1.1, e.1.1.2]) (.inl (.inl (up1 _ _ (f3 e he))))
    · rw [List.map_map] at h1 h2
      obtain ⟨e1, _, rfl⟩ := List.mem_map.mp h1
      obtain ⟨e2, _, rfl⟩ := List.mem_map.mp h2
      rfl
    · rw [List.map_map] at hd
      obtain ⟨e1, _, rfl⟩ := List.mem_map.mp hd
      exact ⟨_, _, rfl⟩
    · obtain ⟨e, he, rfl⟩ := List.mem_map.mp hy
      show PyData.depth _ ≤ 8
      simp [PyData.depth, PyData.depthAll]
    have ndk : (F0.map fun e => e.1.1).Nodup := by
      have : F0.map (fun e : ((Str × Str) × Int) × Addr => e.1.1) = ps.map Prod.fst := by rw [← f1, List.map_map]; rfl
      rw [this]; exact N.sn
    obtain ⟨F', pF, eF, sF⟩ : ∃ F' : List (((Str × Str) × Int) × Addr), F'.Perm F0 ∧ (F0.map fun e => (V.ref e.2, PyData.tuple [.str e.1.1.1, .str e.1.1.2])).mergeSort (PySem.W.dataLe false Prod.snd) = F'.map (fun e => (V.ref e.2, PyData.tuple [.str e.1.1.1, .str e.1.1.2])) ∧ F'.Pairwise (fun a b => kLt a.1.1 b.1.1) :=
      ⟨F0.mergeSort (PySem.W.dataLe false fun e => .tuple [.str e.1.1.1, .str e.1.1.2]), List.mergeSort_perm .., (List.map_mergeSort (f := fun e : ((Str × Str) × Int) × Addr => (V.ref e.2, PyData.tuple [.str e.1.1.1, .str e.1.1.2])) (l := F0) (r := PySem.W.dataLe false fun e : ((Str × Str) × Int) × Addr => .tuple [.str e.1.1.1, .str e.1.1.2]) (s := PySem.W.dataLe false Prod.snd) (fun a _ b _ => rfl)).symm, sortKeysBy (fun e : ((Str × Str) × Int) × Addr => e.1.1) ndk⟩
    rw [eF, List.map_map] at *
    have pq : (F'.map Prod.fst).Perm ps := by rw [← f1]; exact pF.map _
    have up2 := up1.trans (same_new (o := .lst (F'.map (Prod.fst ∘ fun e : ((Str × Str) × Int) × Addr => (V.ref e.2, PyData.tuple [.str e.1.1.1, .str e.1.1.2])))) hp)
    refine ⟨p, rfl, ⟨_, .inl (.inl upd_same)⟩, fun D9 hD9 => ?_⟩
    refine dp_pairs (F := F') (.inl (.inl upd_same)) ((pq.map _).nodup_iff.mpr N.sn) ?_ (fun e he => up2 _ _ (f3 e (pF.mem_iff.mp he))) hD9 (fun _ _ => rfl) (fun y _ H2 _ Q q => ⟨_, rfl, q⟩) (fun y hy H2 e Q q => ⟨_, rfl, _, rfl, c, .int y.1.2, rfl, .inr ⟨_, [.inr y.1.1.1, .inr y.1.1.2], y.2, .inl (e _ _ (up2 _ _ (k5 _ _ cx cd hc))), rfl, e _ _ (up2 _ _ (f3 y (pF.mem_iff.mp hy))), (dtF_val N.sn (pq.mem_iff.mp (List.mem_map.mpr ⟨y, hy, rfl⟩))).symm⟩, q _ (Same.refl _)⟩) (fun H6 e6 hD6 => ?_)
    · have := N.sl
      have := pq.length_eq
      rw [List.length_map] at this
      omega
    have e7 := up2.trans e6
    have z7 := z5
    refine ⟨_, rfl, x, C, dx, p2, v5, 2, rfl, slt_same e7 (.inr z5), PC.sc, s2, ?_⟩
    have fD : H5 D9 = none := up2.free hD9
    have D9x : D9 ≠ x := (ne_of_none z5.1 fD).symm
    have D9d : D9 ≠ dx := (ne_of_none z5.2 fD).symm
    refine hQ _ ys2 (F'.map Prod.fst) (k5.same e7).sl ⟨D, D5, D9, _, slH_sl2 dxx, (SlX.putS_ne (by decide)).mpr w5', (SlX.putS_ne (by decide)).mpr w5, SlX.putS_get _ _ _, n5, ?_, ?_, ?_⟩ (N.perm hys hys2 pq) hys asc pq (by rw [List.pairwise_map]; exact sF)
    · rw [SlX.slH_ne Dx Dd]; exact e7 _ _ hD8
    · rw [SlX.slH_ne D5x D5d]; exact e7 _ _ hD7
    · rw [SlX.slH_ne D9x D9d]; exact hD6
end
end MN
/-! put, out, swap, signs, length of prices (no class Closed) -/
namespace MN
open PySem PySem.Spec PyProof.Rows L2
theorem peSlK0 {X : Cx} {K : PySem.W.Frag} (hK : X.K = K) {e : Expr} {ta : TE} {f : Str} {pos : Pos} (he : PE X e ta) (hb : attributeBase e f X.env (eval e X.env) = eval e X.env := by rfl) : PE X (.Attribute e f pos) (SlX.tSl K ta f) := hK ▸ SlX.pe_sl he hb
section
variable {P : Program} {w : World} {K : PySem.W.Frag} {mg : Str → Option Value} {base : Heap} {Cp : Addr}
/-! ### put, out, swap -/
def spGet0 (Cp : Addr) (R : List Str → List Str → (Str → Int) → (Str → Int) → List ((Str × Str) × Int) → HO) : Sp := fun vs H Q _ => ∃ x dx ys ys2 g o qs, vs = [.ref x] ∧ PrAt Cp H x dx ys ys2 g o qs ∧ PrN ys ys2 g o qs ∧ ∀ d H', H d = none → Same H H' → H' d = some (R ys ys2 g o qs) → Q (.ref d) H'
abbrev spPut0 (Cp : Addr) : Sp := spGet0 Cp fun ys _ g _ _ => .dK (dkF ys g)
abbrev spOut0 (Cp : Addr) : Sp := spGet0 Cp fun _ ys2 _ o _ => .dK (dkF ys2 o)
abbrev spSwap0 (Cp : Addr) : Sp := spGet0 Cp fun _ _ _ _ qs => .dT (dtF qs)
theorem sc_pput0 : FnScope ["self"] ["self"] (defScope (inClass (top 25) 4)) := ⟨rfl, rfl, rfl, by decide +kernel, rfl, by decide +kernel, by decide +kernel⟩
theorem sc_pout0 : FnScope ["self"] ["self"] (defScope (inClass (top 25) 5)) := ⟨rfl, rfl, rfl, by decide +kernel, rfl, by decide +kernel, by decide +kernel⟩
abbrev N_pswap0 : List Str := ["self", "pair"]
theorem sc_pswap0 : FnScope N_pswap0 ["self"] (defScope (inClass (top 25) 6)) := ⟨rfl, rfl, rfl, by decide +kernel, rfl, by decide +kernel, by decide +kernel⟩
theorem f_pput0 {f : Addr} {fd : FuncData} (SP : SlotC K Cp) (F : FunAt K "put" "Prices.put" (inClass (top 25) 4) [] f fd) (B : Blt mg) : FnOk P w K mg base CX0 1 f fd ["self"] (spPut0 Cp) := by
  refine fnok_of F sc_pput0 (fun vs H Q E h => ?_) (fun cdv A outer s H vs Q E hr h => ?_)
  · obtain ⟨_, _, _, _, _, _, _, rfl, _⟩ := h; rfl
  · obtain ⟨x, dx, ys, ys2, g, o, qs, rfl, hP, N, hQ⟩ := h
    obtain ⟨p1, s1⟩ := SP.s1
    refine ⟨_, pss_one (ps_ret (pe_callTy call_dictD (by rfl) B.dict (by decide +kernel) (pa_cons (SlX.pe_sl (pv 0)) pa_nil))), ?_⟩
    obtain ⟨PA, PB, PS, ws, hs, w1, w0, w2, nAB, hA, hB, hS⟩ := hP
    exact ⟨_, rfl, x, Cp, dx, p1, ws, 1, _, rfl, .inr hs, SP.sc, s1, w1, PA, _, rfl, .inl hA, fun d hd => hQ d _ hd (same_new hd) upd_same⟩
theorem f_pout0 {f : Addr} {fd : FuncData} (SP : SlotC K Cp) (F : FunAt K "out" "Prices.out" (inClass (top 25) 5) [] f fd) (B : Blt mg) : FnOk P w K mg base CX0 1 f fd ["self"] (spOut0 Cp) := by
  refine fnok_of F sc_pout0 (fun vs H Q E h => ?_) (fun cdv A outer s H vs Q E hr h => ?_)
  · obtain ⟨_, _, _, _, _, _, _, rfl, _⟩ := h; rfl
  · obtain ⟨x, dx, ys, ys2, g, o, qs, rfl, hP, N, hQ⟩ := h
    obtain ⟨p1, s1⟩ := SP.s0
    refine ⟨_, pss_one (ps_ret (pe_callTy call_dictD (by rfl) B.dict (by decide +kernel) (pa_cons (SlX.pe_sl (pv 0)) pa_nil))), ?_⟩
    obtain ⟨PA, PB, PS, ws, hs, w1, w0, w2, nAB, hA, hB, hS⟩ := hP
    exact ⟨_, rfl, x, Cp, dx, p1, ws, 0, _, rfl, .inr hs, SP.sc, s1, w0, PB, _, rfl, .inl hB, fun d hd => hQ d _ hd (same_new hd) upd_same⟩
theorem f_pswap0 {f : Addr} {fd : FuncData} (SP : SlotC K Cp) (F : FunAt K "swap" "Prices.swap" (inClass (top 25) 6) [] f fd) (B : Blt mg) : FnOk P w K mg base CX0 1 f fd ["self"] (spSwap0 Cp) := by
  refine fnok_of F sc_pswap0 (fun vs H Q E h => ?_) (fun cdv A outer s H vs Q E hr h => ?_)
  · obtain ⟨_, _, _, _, _, _, _, rfl, _⟩ := h; rfl
  · obtain ⟨x, dx, ys, ys2, g, o, qs, rfl, hP, N, hQ⟩ := h
    obtain ⟨p2, s2⟩ := SP.s2
    refine ⟨_, pss_one (ps_ret (pe_lock (pe_dp1 (own := [("pair", 1)]) (o0 := .dT []) (g := gName 1) (tt := tYes) rfl (hu_of hr) sc_pswap0.nd (pi_keys (SlX.pe_sl (pv 0)))
        (blkOk_by (own := [("pair", 1)]) (N := N_pswap0) (sc := defScope (inClass (top 25) 6)) (by decide +kernel)) (fun _ _ _ _ _ => (pg_name (i := 1) sc_pswap0.nd rfl (Or.inl rfl))) (fun _ _ _ _ _ => pts_nil) (fun _ _ _ _ _ => pv 1) (fun _ _ _ _ _ => pe_dget (hu_of hr) (peSlK0 (K := K) rfl (pv 0)) (pv 1) (fun _ _ => rfl)) (.inr rfl)))), ?_⟩
    obtain ⟨PA, PB, PS, ws, hs, w1, w0, w2, nAB, hA, hB, hS⟩ := hP
    refine ⟨PS, _, hS, trivial, fun od => ?_⟩
    have xS : x ≠ PS := fun z => by
      have q := hs.1
      rw [z, hS] at q
      injection q with q
      unfold SlX.SlO at q
      cases q
    have dS : dx ≠ PS := fun z => by
      have q := hs.2
      rw [z, hS] at q
      cases q
    have S1' : Sl2 (upd H PS (.frz od (.dT (dtF qs)))) x Cp dx ws := ⟨by rw [upd_ne xS]; exact hs.1, by rw [upd_ne dS]; exact hs.2⟩
    refine ⟨_, rfl, x, Cp, dx, p2, ws, 2, _, rfl, .inr S1', SP.sc, s2, w2, PS, od, rfl, .inr ⟨_, upd_same, fun T hT0 => ?_⟩⟩
    have TS : T ≠ PS := fun z => by rw [z, upd_same] at hT0; cases hT0
    refine dp_it walk_keysT (fun i H' => Same (upd H PS (.frz od (.dT (dtF qs)))) H' ∧ H' T = some (.dT (dtF (qs.take i)))) ⟨same_new hT0, by rw [List.take_zero]; exact upd_same⟩ (fun i H' _ e => e.1 _ _ upd_same) (fun i y Ha Hb hi e hy => ?_) (fun H2' e => ⟨e.1 _ _ upd_same, ?_⟩)
    · obtain ⟨rfl, k, v, b, hk, rfl, hb⟩ := hy
      obtain ⟨ea, eT⟩ := e
      unfold dtF at hk
      rw [List.getElem?_map] at hk
      obtain ⟨⟨⟨z1, z2⟩, n⟩, hz, ek⟩ := Option.map_eq_some_iff.mp hk
      cases ek
      refine ⟨rfl, yes_q (iteT ⟨_, rfl, _, rfl, x, Cp, dx, p2, ws, 2, _, rfl, slt_same ea (.inr S1'), SP.sc, s2, w2, _, rfl, PS, .int n, rfl, .inr ⟨_, [.inr z1, .inr z2], b, .inr ⟨od, ea _ _ upd_same⟩, rfl, hb, (dtF_val N.sn (List.mem_of_getElem? hz)).symm⟩, _, .inr ⟨_, [.inr z1, .inr z2], b, eT, rfl, hb, ?_, rfl⟩, fun c u q => ?_, ?_⟩)⟩
      · have : 100000 < sizeLine := by decide
        have := N.sl
        simp [dtF]
        omega
      · rw [upd_ne (ne_of_none q hT0)]; exact ea _ _ q
      · rw [upd_same, dtF_put N.sn hz]
    obtain ⟨ea, eT⟩ := e
    refine hQ T _ (by rw [upd_ne TS] at hT0; exact hT0) (fun b u q => ?_) ?_
    · by_cases z : b = PS
      · rw [z, upd_same]; rw [z, hS] at q; exact q
      · rw [upd_ne z]; exact ea _ _ (by rw [upd_ne z]; exact q)
    · have : (dtF qs).length = qs.length := by simp [dtF]
      rw [upd_ne TS, eT, this, List.take_length]
/-! ### signs, length -/
theorem sc_psigns : FnScope ["self"] ["self"] (defScope (inClass (top 25) 3)) := ⟨rfl, rfl, rfl, by decide +kernel, rfl, by decide +kernel, by decide +kernel⟩
def spSigns02 (K : PySem.W.Frag) (Cp : Addr) : Sp := fun vs H Q _ => ∃ x dx ys ys2 g o qs, vs = [.ref x] ∧ PrAt Cp H x dx ys ys2 g o qs ∧ ∀ d H', Same H H' → SqT K H' d (strsV ys) → Q (.ref d) H'
theorem f_psigns {f : Addr} {fd : FuncData} (SP : SlotC K Cp) (F : FunAt K "signs" "Prices.signs" (inClass (top 25) 3) [] f fd) (B : Blt mg) : FnOk P w K mg base CX0 1 f fd ["self"] (spSigns02 K Cp) := by
  refine fnok_of F sc_psigns (fun vs H Q E h => ?_) (fun cdv A outer s H vs Q E hr h => ?_)
  · obtain ⟨_, _, _, _, _, _, _, rfl, _⟩ := h; rfl
  · obtain ⟨x, dx, ys, ys2, g, o, qs, rfl, hP, hQ⟩ := h
    obtain ⟨p1, s1⟩ := SP.s1
    refine ⟨_, pss_one (ps_ret (pe_callTy call_tuple_of (by rfl) B.tuple (by decide +kernel) (pa_cons (pe_callTy (call_list_dK rfl) (by rfl) B.list (by decide +kernel) (pa_cons (SlX.pe_sl (pv 0)) pa_nil)) pa_nil))), ?_⟩
    obtain ⟨PA, PB, PS, ws, hs, w1, w0, w2, nAB, hA, hB, hS⟩ := hP
    refine ⟨_, rfl, x, Cp, dx, p1, ws, 1, _, rfl, .inr hs, SP.sc, s1, w1, PA, _, rfl, hA, fun q hq => ⟨q, _, rfl, .inl ⟨SqL.of upd_same, fun T hT => ?_⟩⟩⟩
    have e : (dkF ys g).map (fun kv => kV kv.1) = strsV ys := by unfold dkF; rw [List.map_map]; rfl
    rw [e] at hT ⊢
    obtain ⟨e1, u1⟩ := laid (.lst (strsV ys)) hq
    obtain ⟨e2, u2⟩ := laid (.tup (strsV ys)) hT
    exact hQ T _ (e1.trans e2) (.inl (.inl u2))
theorem sc_plen : FnScope ["self"] ["self"] (defScope (inClass (top 25) 15)) := ⟨rfl, rfl, rfl, by decide +kernel, rfl, by decide +kernel, by decide +kernel⟩
def spLen02 (Cp : Addr) : Sp := fun vs H Q _ => ∃ x dx ys ys2 g o qs, vs = [.ref x] ∧ PrAt Cp H x dx ys ys2 g o qs ∧ Q (.int ys.length) H
theorem f_plen {f : Addr} {fd : FuncData} (SP : SlotC K Cp) (F : FunAt K "__len__" "Prices.__len__" (inClass (top 25) 15) [] f fd) (B : Blt mg) : FnOk P w K mg base CX0 1 f fd ["self"] (spLen02 Cp) := by
  refine fnok_of F sc_plen (fun vs H Q E h => ?_) (fun cdv A outer s H vs Q E hr h => ?_)
  · obtain ⟨_, _, _, _, _, _, _, rfl, _⟩ := h; rfl
  · obtain ⟨x, dx, ys, ys2, g, o, qs, rfl, hP, hQ⟩ := h
    obtain ⟨p1, s1⟩ := SP.s1
    refine ⟨_, pss_one (ps_ret (pe_callB call_lenD (by rfl) B.len (by decide +kernel) (pa_cons (SlX.pe_sl (pv 0)) pa_nil))), ?_⟩
    obtain ⟨PA, PB, PS, ws, hs, w1, w0, w2, nAB, hA, hB, hS⟩ := hP
    refine ⟨_, rfl, x, Cp, dx, p1, ws, 1, _, rfl, .inr hs, SP.sc, s1, w1, PA, _, rfl, hA, ?_⟩
    have e : (dkF ys g).length = ys.length := by simp [dkF]
    rw [e]; exact hQ
end
end MN
/-! Prices.__eq__ of two prices -/
namespace MN
open PySem PySem.Spec PyProof.Rows L2
def kI (ys : List Str) (g : Str → Int) : List (Key × Int) := ys.map fun z => (Sum.inr z, g z)
def kT (qs : List ((Str × Str) × Int)) : List (List Key × Int) := qs.map fun e => ([Sum.inr e.1.1, Sum.inr e.1.2], e.2)
theorem dkF_kI (ys : List Str) (g : Str → Int) : dkF ys g = intKv (kI ys g) := by unfold dkF intKv kI; rw [List.map_map]; rfl
theorem dtF_kT (qs : List ((Str × Str) × Int)) : dtF qs = intKv (kT qs) := by unfold dtF intKv kT; rw [List.map_map]; rfl
/-- equal prices -/
def eqPr (ys ys2 : List Str) (g o : Str → Int) (qs : List ((Str × Str) × Int)) (zs zs2 : List Str) (g' o' : Str → Int) (ps : List ((Str × Str) × Int)) : Bool := eqKv (kI ys g) (kI zs g') && (eqKv (kI ys2 o) (kI zs2 o') && eqKv (kT qs) (kT ps))
section
variable {P : Program} {w : World} {K : PySem.W.Frag} {mg : Str → Option Value} {base : Heap} {Cp : Addr}
theorem sc_peq : FnScope ["self", "other"] ["self", "other"] (defScope (inClass (top 25) 16)) := ⟨rfl, rfl, rfl, by decide +kernel, rfl, by decide +kernel, by decide +kernel⟩
def spEq02 (Cp : Addr) : Sp := fun vs H Q _ => ∃ x dx y dy ys ys2 g o qs zs zs2 g' o' ps, vs = [.ref x, .ref y] ∧ PrAt Cp H x dx ys ys2 g o qs ∧ PrAt Cp H y dy zs zs2 g' o' ps ∧ Q (.bl (eqPr ys ys2 g o qs zs zs2 g' o' ps)) H
theorem f_peq {f : Addr} {fd : FuncData} (SP : SlotC K Cp) (si : SlX.SIsi K Cp) (isP : PySem.W.kitOne K (.ref Cp) (.ref Cp) = some true) (gp : mg "Prices" = some (.ref Cp)) (F : FunAt K "__eq__" "Prices.__eq__" (inClass (top 25) 16) [] f fd) (B : Blt mg) : FnOk P w K mg base CX0 1 f fd ["self", "other"] (spEq02 Cp) := by
  refine fnok_of F sc_peq (fun vs H Q E h => ?_) (fun cdv A outer s H vs Q E hr h => ?_)
  · obtain ⟨_, _, _, _, _, _, _, _, _, _, _, _, _, _, rfl, _⟩ := h; rfl
  · obtain ⟨x, dx, y, dy, ys, ys2, g, o, qs, zs, zs2, g', o', ps, rfl, hP, hP', hQ⟩ := h
    have GF : GlC mg "Prices" (.ref Cp) := ⟨_, gp, rfl⟩
    obtain ⟨p1, s1⟩ := SP.s1
    obtain ⟨p0, s0⟩ := SP.s0
    obtain ⟨p2, s2⟩ := SP.s2
    refine ⟨_, pss_one (ps_ret (pe_and (pe_callB (SlX.call_isiSl (.ref Cp)) (by rfl) B.isinstance (by decide +kernel) (pa_cons (pv 1) (pa_cons (pe_gl (by rfl) GF) pa_nil)))
      (pe_and (pe_cmpR (op_eqDK hr.units) (SlX.pe_sl (pv 0)) (SlX.pe_sl (pv 1)) (nomark _)) (pe_and (pe_cmpR (op_eqDK hr.units) (SlX.pe_sl (pv 0)) (SlX.pe_sl (pv 1)) (nomark _)) (pe_one (pe_cmpR (op_eqDT hr.units) (SlX.pe_sl (pv 0)) (SlX.pe_sl (pv 1)) (nomark _))))))), ?_⟩
    obtain ⟨PA, PB, PS, ws, hs, w1, w0, w2, nAB, hA, hB, hS⟩ := hP
    obtain ⟨PA', PB', PS', ws', hs', w1', w0', w2', nAB', hA', hB', hS'⟩ := hP'
    refine ⟨_, rfl, y, Cp, dy, ws', _, true, rfl, rfl, fun w e => e, .inr hs', SP.sc, si, isP, ?_⟩
    rw [dkF_kI] at hA hB hA' hB'
    rw [dtF_kT] at hS hS'
    refine ⟨true, rfl, ?_⟩
    rw [if_pos rfl]
    refine ⟨_, rfl, x, Cp, dx, p1, ws, 1, _, rfl, .inr hs, SP.sc, s1, w1, _, rfl, y, Cp, dy, p1, ws', 1, _, rfl, .inr hs', SP.sc, s1, w1', PA, PA', _, _, rfl, rfl, hA, hA', ?_⟩
    refine ⟨_, rfl, ?_⟩
    unfold eqPr at hQ
    cases e1 : eqKv (kI ys g) (kI zs g') with
    | false =>
      rw [e1, Bool.false_and] at hQ
      rw [if_neg (by decide)]
      exact hQ
    | true =>
      rw [e1, Bool.true_and] at hQ
      rw [if_pos rfl]
      refine ⟨_, rfl, x, Cp, dx, p0, ws, 0, _, rfl, .inr hs, SP.sc, s0, w0, _, rfl, y, Cp, dy, p0, ws', 0, _, rfl, .inr hs', SP.sc, s0, w0', PB, PB', _, _, rfl, rfl, hB, hB', ?_⟩
      refine ⟨_, rfl, ?_⟩
      cases e2 : eqKv (kI ys2 o) (kI zs2 o') with
      | false =>
        rw [e2, Bool.false_and] at hQ
        rw [if_neg (by decide)]
        exact hQ
      | true =>
        rw [e2, Bool.true_and] at hQ
        rw [if_pos rfl]
        exact ⟨_, rfl, x, Cp, dx, p2, ws, 2, _, rfl, .inr hs, SP.sc, s2, w2, _, rfl, y, Cp, dy, p2, ws', 2, _, rfl, .inr hs', SP.sc, s2, w2', PS, PS', _, _, rfl, rfl, hS, hS', hQ⟩
end
end MN
/-! list(d.values()) of a dict with tuple keys -/
namespace MN
open PySem PySem.Spec PyProof.Rows L2
section
variable {prog : Program} {w : World} {A : Around} {E : Value → Shared → Prop} {s : Shared}
theorem meetsValuesR {d : Addr} {es : Array DictEntry} {ep : Nat} (hd : (d == sysModules) = false) :
    MeetsIn prog w (Builtin.«dict.values» ⟨[.ref d], []⟩) (fun _ R s => DT.Raw s.heap d es ep ∧
      R (.ok (.ret (.ref s.heap.objs.size))) { s with heap := s.heap.push { cls := .type "dict_values", data := .fields #[.ref d] } }) :=
  .of_wp fun A R s ⟨hm, h⟩ => by
    refine wpAny_bind ?_
    unfold Builtin.Dict.noArgs
    refine wpAny_bind (wpAny_notOrdered_dict hm.typeIs ?_)
    show wpAny _ _ (pure d) _ _ s
    refine wpAny_pure ?_
    show wpAny _ _ (Builtin.Dict.showsAll d >>= _) _ _ s
    unfold Builtin.Dict.showsAll
    rw [if_neg (by rw [hd]; exact Bool.false_ne_true)]
    refine wpAny_bind (wpAny_pure ?_)
    exact wpAny_bind (wpAny_newObj_type (wpAny_pure ⟨_, rfl, h⟩))
theorem callValuesR {d : Addr} {es : Array DictEntry} {ep : Nat} {Q : Value → Shared → Prop} (hd : (d == sysModules) = false) (hm : DT.Raw s.heap d es ep)
    (h : Q (.ref s.heap.objs.size) { s with heap := s.heap.push { cls := .type "dict_values", data := .fields #[.ref d] } }) : wpAny (model prog w) A (call (.builtin "dict.values") [.ref d]) Q E s :=
  call_meetsIn PySem.F.slot_dict_values hm.typeIs PySem.F.entry_dict_values (PySem.F.args_dict_values_1 _) (meetsValuesR (es := es) (ep := ep) hd) ⟨hm, h⟩
end
section
variable {X : Cx} {e : Expr} {te : TE} {p apos cpos pos : Pos}
def tListValsT (te : TE) : TE := fun σ H Q => te σ H fun x H1 => ∃ (d : Addr) (kvs : List (List Key × V)), x = .ref d ∧ H1 d = some (.dT kvs) ∧ ∀ p, H1 p = none → Q (.ref p) (upd H1 p (.lst (kvs.map (·.2))))
theorem vals_at : ∀ {xs : List V} {us : List Value}, xs.length = us.length → (∀ (i : Nat) (x : V) (u : Value), xs[i]? = some x → us[i]? = some u → RelV x u) → Vals xs us
  | [], [], _, _ => .nil
  | x :: xs, u :: us, hl, h => .cons (h 0 x u rfl rfl) (vals_at (by simpa using hl) fun i x u a b => h (i + 1) x u a b)
  | [], _ :: _, hl, _ => by simp at hl
  | _ :: _, [], hl, _ => by simp at hl
theorem pe_listValsT (hc : X.calm = true) (he : PE X e te) (hg : Gl X "list") (hm : X.mg "list" = none) (hbase : attributeBase e "values" X.env (eval e X.env) = eval e X.env := by rfl) (hline : (apos.endLine == cpos.line) = true := by rfl)
    (hs : starEach [.Call (.Attribute e "values" apos) [] [] cpos] X.env = (false, eval (.Call (.Attribute e "values" apos) [] [] cpos) X.env) :: starEach [] X.env := by rfl) :
    PE X (.Call (.Name "list" p) [.Call (.Attribute e "values" apos) [] [] cpos] [] pos) (tListValsT te) := by
  refine ⟨fun pins s σ H Q I hq => ?_⟩
  refine wpAny_Call_Name_kw (ld_blt I hg hm boot_list ?_)
  refine PyProof.Rows.callWith_type1 ?_ hs rfl
  rw [hs]
  show wpAny _ _ (spliced ((false, eval (.Call (.Attribute e "values" apos) [] [] cpos) X.env) :: backTo pos (starEach [] X.env))) _ _ s
  refine Calls.spliced_cons ?_
  refine wpAny_Call_method (T := "dict") (id := "dict.values") hbase rfl hline F.plainAttrs_dict F.slot_dict_values F.type_dict_values (thn (he.run pins s σ H _ I hq) fun u s1 ⟨x, H1, I1, rx, d, kvs, ex, hd, q⟩ => ?_)
  subst ex
  obtain rfl : u = Value.ref d := rx
  obtain ⟨z, hs0, xs, rel, o, es, ep, ho, hx, hdat, hes, his, hnd⟩ := dt_of I1.hok hd
  have raw : DT.Raw s1.heap d es ep := ⟨o, ho, hx, hdat⟩
  have lx : kvs.length = xs.length := Paired.length rel
  have le : es.size = xs.length := size_of_entries hes
  have I2 : L2.Inv X pins σ H1 { s1 with heap := s1.heap.push { cls := .type "dict_values", data := .fields #[.ref d] } } := I1.kept (t' := s1.toks) fun b ob q => Heap.get?_push_of_some _ q
  refine ⟨raw.typeIs, dictOfH_noDict (knd := tupleKind (mixKind X.prog X.w)) ⟨o, es, ep, ho, hx, hdat, hes, his, hnd⟩, ?_⟩
  show wpAny _ _ (callWith cpos (.builtin "dict.values") [.ref d] [] []) _ X.xe s1
  refine Calls.callWith_builtin rfl (PySem.evalArgs_none (callValuesR hs0 raw ?_))
  refine Calls.spliced_nil ?_
  refine PySem.W.kdl_call (PySem.KdlSrc.rawValues (es := es) (ep := ep)) (I1.ok.hd hc) ⟨⟨_, Heap.get?_push_size _ rfl, rfl, rfl⟩, raw.push _⟩ (by omega) fun h' tk acc' c' hkeep hS hacc => ?_
  refine ⟨.ref _, upd H1 _ (.lst (kvs.map (·.2))), I2.laid hkeep (Nat.le_refl _) (show ObjOk X.prog X.w _ _ _ (.lst (kvs.map (·.2))) from ⟨?_, acc'.toList, c', ?_, ?_⟩), rfl, q _ (I2.hok.fresh (Nat.le_refl _))⟩
  · rw [List.length_map]; exact z
  · have la : acc'.toList.length = es.size := by rw [Array.length_toList]; exact hacc.1
    refine vals_at (by rw [List.length_map, la]; omega) fun i x u h1 h2 => ?_
    rw [List.getElem?_map] at h1
    obtain ⟨kv, h3, rfl⟩ := Option.map_eq_some_iff.mp h1
    obtain ⟨hi, rfl⟩ := hacc.2 i u (by rw [← Array.getElem?_toList]; exact h2)
    obtain ⟨x', g1, g2, g3, g4⟩ := LiI.paired_get rel h3
    have e3 := entry_at hes i
    rw [Array.getElem?_eq_getElem hi, g1] at e3
    rw [Option.some.inj e3]
    exact g4
  · rw [Array.toArray_toList]; exact hS
end
end MN
/-! Prices.smallest -/
namespace MN
open PySem PySem.Spec PyProof.Rows L2
section
variable {P : Program} {w : World} {K : PySem.W.Frag} {mg : Str → Option Value} {base : Heap} {Cp : Addr}
/-- all prices -/
def allN (ys ys2 : List Str) (g o : Str → Int) (qs : List ((Str × Str) × Int)) : List Int := ys.map g ++ ys2.map o ++ qs.map Prod.snd
theorem sc_psmall : FnScope ["self"] ["self"] (defScope (inClass (top 25) 7)) := ⟨rfl, rfl, rfl, by decide +kernel, rfl, by decide +kernel, by decide +kernel⟩
def spSmall02 (Cp : Addr) : Sp := fun vs H Q _ => ∃ x dx ys ys2 g o qs, vs = [.ref x] ∧ PrAt Cp H x dx ys ys2 g o qs ∧ PrN ys ys2 g o qs ∧ ∀ m H', Same H H' → m ∈ allN ys ys2 g o qs → (∀ y ∈ allN ys ys2 g o qs, m ≤ y) → Q (.int m) H'
theorem f_psmall {f : Addr} {fd : FuncData} (SP : SlotC K Cp) (F : FunAt K "smallest" "Prices.smallest" (inClass (top 25) 7) [] f fd) (B : Blt mg) : FnOk P w K mg base CX0 1 f fd ["self"] (spSmall02 Cp) := by
  refine fnok_of F sc_psmall (fun vs H Q E h => ?_) (fun cdv A outer s H vs Q E hr h => ?_)
  · obtain ⟨_, _, _, _, _, _, _, rfl, _⟩ := h; rfl
  · obtain ⟨x, dx, ys, ys2, g, o, qs, rfl, hP, N, hQ⟩ := h
    obtain ⟨p1, s1⟩ := SP.s1
    obtain ⟨p0, s0⟩ := SP.s0
    obtain ⟨p2, s2⟩ := SP.s2
    refine ⟨_, pss_one (ps_ret (pe_callB (cr_min rfl) (by rfl) B.min (by decide +kernel) (pa_cons (pe_op op_cat (pe_op op_cat (pe_listVals rfl (SlX.pe_sl (pv 0)) (by rfl) B.list) (pe_listVals rfl (SlX.pe_sl (pv 0)) (by rfl) B.list)) (pe_listValsT rfl (SlX.pe_sl (pv 0)) (by rfl) B.list)) pa_nil))), ?_⟩
    have hP0 := hP
    obtain ⟨PA, PB, PS, ws, hs, w1, w0, w2, nAB, hA, hB, hS⟩ := hP
    have l1 := N.le
    have l2 := N.pm.length_eq
    have l3 := N.sl
    have pos := N.pos
    have v1 : (dkF ys g).map (·.2) = (ys.map g).map V.int := by unfold dkF; rw [List.map_map, List.map_map]; rfl
    have v2 : (dkF ys2 o).map (·.2) = (ys2.map o).map V.int := by unfold dkF; rw [List.map_map, List.map_map]; rfl
    have v3 : (dtF qs).map (·.2) = (qs.map Prod.snd).map V.int := by unfold dtF; rw [List.map_map, List.map_map]; rfl
    refine ⟨_, rfl, x, Cp, dx, p1, ws, 1, _, rfl, .inr hs, SP.sc, s1, w1, PA, _, rfl, hA, fun a1 h1 => ?_⟩
    rw [v1]
    obtain ⟨e1, u1⟩ := laid (.lst ((ys.map g).map V.int)) h1
    generalize upd H a1 (.lst ((ys.map g).map V.int)) = H1 at e1 u1 ⊢
    refine ⟨_, rfl, x, Cp, dx, p0, ws, 0, _, rfl, .inr ⟨e1 _ _ hs.1, e1 _ _ hs.2⟩, SP.sc, s0, w0, PB, _, rfl, e1 _ _ hB, fun a2 h2 => ?_⟩
    rw [v2]
    obtain ⟨e2, u2⟩ := laid (.lst ((ys2.map o).map V.int)) h2
    generalize upd H1 a2 (.lst ((ys2.map o).map V.int)) = H2 at e2 u2 ⊢
    have big : 200 ≤ sizeLine := by decide
    refine ⟨a1, a2, _, _, rfl, rfl, e2 _ _ u1, u2, by rw [List.length_map, List.length_map, List.length_map, List.length_map]; omega, fun a3 h3 => ?_⟩
    rw [← List.map_append]
    obtain ⟨e3, u3⟩ := laid (.lst ((ys.map g ++ ys2.map o).map V.int)) h3
    generalize upd H2 a3 (.lst ((ys.map g ++ ys2.map o).map V.int)) = H3 at e3 u3 ⊢
    have e13 := (e1.trans e2).trans e3
    refine ⟨_, rfl, x, Cp, dx, p2, ws, 2, _, rfl, .inr ⟨e13 _ _ hs.1, e13 _ _ hs.2⟩, SP.sc, s2, w2, PS, _, rfl, e13 _ _ hS, fun a4 h4 => ?_⟩
    rw [v3]
    obtain ⟨e4, u4⟩ := laid (.lst ((qs.map Prod.snd).map V.int)) h4
    generalize upd H3 a4 (.lst ((qs.map Prod.snd).map V.int)) = H4 at e4 u4 ⊢
    refine ⟨a3, a4, _, _, rfl, rfl, e4 _ _ u3, u4, by rw [List.length_map, List.length_append, List.length_map, List.length_map, List.length_map, List.length_map]; omega, fun a5 h5 => ?_⟩
    rw [← List.map_append]
    obtain ⟨e5, u5⟩ := laid (.lst ((ys.map g ++ ys2.map o ++ qs.map Prod.snd).map V.int)) h5
    exact ⟨a5, _, rfl, SqL.of u5, by rw [List.length_append, List.length_append, List.length_map]; omega, fun m hm hle => hQ m _ ((e13.trans e4).trans e5) hm hle⟩
end
end MN
/-! the class method even of Prices -/
namespace MN
open PySem PySem.Spec PyProof.Rows L2
def EvnC (K : PySem.W.Frag) (Cp : Addr) : Prop := ∃ mc p g fd, ClX.CRead K Cp mc ∧ ClX.CMet K Cp mc "even" p g ∧ FunAt K "even" "Prices.even" (inClass (top 25) 2) [.int 1] g fd
end MN
/-! dict comprehensions over the items of a dict; one of two readings -/
namespace MN
open PySem PySem.Spec PyProof.Rows L2
def tOr (t1 t2 : TE) : TE := fun σ H Q => t1 σ H Q ∨ t2 σ H Q
theorem pe_or2 {X : Cx} {e : Expr} {t1 t2 : TE} (h1 : PE X e t1) (h2 : PE X e t2) : PE X e (tOr t1 t2) := ⟨fun pins s σ H Q I h => h.elim (h1.run pins s σ H Q I) (h2.run pins s σ H Q I)⟩
section
variable {K : PySem.W.Frag} {d D : Addr} {ob : Obj} {H1 : Hp} {σ : L2.St} {vs : List Nat} {tk tv : TE} {j1 j2 : Nat} {Qd : Hp → Prop}
/-- {key: f(price) for key, price in items}, the keys being signs -/
theorem dp_itemsK {ys : List Str} {g : Str → Int} (f : Int → Int) (hs : H1 d = some (.frz ob (.dK (dkF ys g)))) (nd : ys.Nodup) (hz : ys.length ≤ 1000) (hD : H1 D = none)
    (hw : ∀ x y : V, wipe (((wipe σ vs).set j1 (some x)).set j2 (some y)) vs = wipe σ vs)
    (hk : ∀ y ∈ ys, ∀ H2, Same H1 H2 → ∀ Q : VK, Q (.str y) H2 → tk (((wipe σ vs).set j1 (some (.str y))).set j2 (some (.int (g y)))) H2 Q)
    (hv : ∀ y ∈ ys, ∀ H2, Same H1 H2 → ∀ Q : VK, (∀ H3, Same H2 H3 → Q (.int (f (g y))) H3) → tv (((wipe σ vs).set j1 (some (.str y))).set j2 (some (.int (g y)))) H2 Q)
    (hd : ∀ H', Same H1 H' → H' D = some (.dK (dkF ys fun y => f (g y))) → Qd H') : DcGoal (.dK []) (Iti d ob (dkF ys g)) (gTup K 2 (gCons (gName j1) (gCons (gName j2) gNil))) tYes tk tv vs σ H1 D Qd := by
  refine dp_it walk_items (fun i H' => Same H1 H' ∧ H' D = some (.dK (dkF (ys.take i) fun y => f (g y)))) ⟨same_new hD, by rw [List.take_zero]; exact upd_same⟩ (fun i H' _ e => e.1 _ _ hs) (fun i x H H' hi e y => ?_) (fun H' e => ?_)
  · obtain ⟨T, x1, y1, rfl, hT, rfl, h1, h2⟩ := y
    obtain ⟨e1, e2⟩ := e
    obtain ⟨z, hzi, rfl, rfl⟩ : ∃ z, ys[i]? = some z ∧ x1 = .str z ∧ y1 = .int (g z) := by
      replace h1 : (ys.map fun z => ((Sum.inr z : Key), V.int (g z)))[i]?.map (fun kv => kV kv.1) = some x1 := h1
      replace h2 : (ys.map fun z => ((Sum.inr z : Key), V.int (g z)))[i]?.map Prod.snd = some y1 := h2
      rw [List.getElem?_map] at h1 h2
      cases q : ys[i]? with
      | none => rw [q] at h1; cases h1
      | some z =>
        rw [q] at h1 h2
        exact ⟨z, rfl, (Option.some.inj h1).symm, (Option.some.inj h2).symm⟩
    have hm : z ∈ ys := List.mem_of_getElem? hzi
    have sT := same_new (o := .tup [.str z, .int (g z)]) hT
    have s1 := e1.trans sT
    refine ⟨T, _, rfl, .inl (.inl upd_same), rfl, _, _, rfl, _, _, rfl, rfl, hw _ _, yes_q (iteT (hk z hm _ s1 _ (hv z hm _ s1 _ fun H3 e3 => ⟨_, .inl ⟨_, .inr z, e3 _ _ (sT _ _ e2), rfl, ?_, rfl⟩, fun b o q => ?_, ?_⟩)))⟩
    · have : 100000 < sizeLine := by decide
      simp [dkF]
      omega
    · rw [upd_ne (ne_of_none q hD)]; exact e3 _ _ (s1 _ _ q)
    · rw [upd_same, dkF_put (fun y => f (g y)) nd hzi]
  · obtain ⟨e1, e2⟩ := e
    refine hd H' e1 ?_
    rw [show (dkF ys g).length = ys.length by simp [dkF], List.take_length] at e2
    exact e2
/-- the keys being pairs of signs -/
theorem dp_itemsT {ps : List ((Str × Str) × Int)} (f : Int → Int) (hs : H1 d = some (.frz ob (.dT (dtF ps)))) (nd : (ps.map Prod.fst).Nodup) (hz : ps.length ≤ 1000) (hD : H1 D = none)
    (hw : ∀ x y : V, wipe (((wipe σ vs).set j1 (some x)).set j2 (some y)) vs = wipe σ vs)
    (hk : ∀ p ∈ ps, ∀ q, ∀ H2, Same H1 H2 → ∀ Q : VK, Q (.ref q) H2 → tk (((wipe σ vs).set j1 (some (.ref q))).set j2 (some (.int p.2))) H2 Q)
    (hv : ∀ p ∈ ps, ∀ q, ∀ H2, Same H1 H2 → ∀ Q : VK, (∀ H3, Same H2 H3 → Q (.int (f p.2)) H3) → tv (((wipe σ vs).set j1 (some (.ref q))).set j2 (some (.int p.2))) H2 Q)
    (hd : ∀ H', Same H1 H' → H' D = some (.dT (dtF (ps.map fun p => (p.1, f p.2)))) → Qd H') : DcGoal (.dT []) (Itit d ob (dtF ps)) (gTup K 2 (gCons (gName j1) (gCons (gName j2) gNil))) tYes tk tv vs σ H1 D Qd := by
  have nd' : ((ps.map fun p => (p.1, f p.2)).map Prod.fst).Nodup := by rw [List.map_map]; exact nd
  refine dp_it walk_itemsT (fun i H' => Same H1 H' ∧ H' D = some (.dT (dtF ((ps.map fun p => (p.1, f p.2)).take i)))) ⟨same_new hD, by rw [List.take_zero]; exact upd_same⟩ (fun i H' _ e => e.1 _ _ hs) (fun i x H H' hi e y => ?_) (fun H' e => ?_)
  · obtain ⟨T, k1, v1, q, h1, rfl, hT, hq, rfl⟩ := y
    obtain ⟨e1, e2⟩ := e
    obtain ⟨⟨⟨x, y⟩, n⟩, hpi, rfl, rfl⟩ : ∃ p : (Str × Str) × Int, ps[i]? = some p ∧ k1 = [.inr p.1.1, .inr p.1.2] ∧ v1 = .int p.2 := by
      unfold dtF at h1
      rw [List.getElem?_map] at h1
      obtain ⟨p, hp, e⟩ := Option.map_eq_some_iff.mp h1
      exact ⟨p, hp, (congrArg Prod.fst e).symm, (congrArg Prod.snd e).symm⟩
    have hm : ((x, y), n) ∈ ps := List.mem_of_getElem? hpi
    have hi2 : (ps.map fun p => (p.1, f p.2))[i]? = some ((x, y), f n) := by rw [List.getElem?_map, hpi]; rfl
    have sT := same_new (o := .tup [.ref q, .int n]) hT
    have s1 := e1.trans sT
    refine ⟨T, _, rfl, .inl (.inl upd_same), rfl, _, _, rfl, _, _, rfl, rfl, hw _ _, yes_q (iteT (hk _ hm q _ s1 _ (hv _ hm q _ s1 _ fun H3 e3 => ⟨_, .inr ⟨_, [.inr x, .inr y], q, e3 _ _ (sT _ _ e2), rfl, e3 _ _ (sT _ _ hq), ?_, rfl⟩, fun b o z => ?_, ?_⟩)))⟩
    · have : 100000 < sizeLine := by decide
      simp [dtF]
      omega
    · rw [upd_ne (ne_of_none z hD)]; exact e3 _ _ (s1 _ _ z)
    · rw [upd_same, dtF_put nd' hi2]
  · obtain ⟨e1, e2⟩ := e
    refine hd H' e1 ?_
    rw [show (dtF ps).length = (ps.map fun p => (p.1, f p.2)).length by simp [dtF], List.take_length] at e2
    exact e2
end
end MN
/-! comprehensions each item of which is a new object (from Mat26) -/
namespace MN
open PySem PySem.Spec PyProof.Rows L2
/-- a comprehension each item of which is a new object -/
theorem lc_newF {J : It} {n : Nat} {G : Hp → Prop} {Y : Nat → Hp → V → Hp → Prop} (w : Walk J n G Y) (xs : List V) (hn : xs.length = n) (hz : n ≤ 1000) (hY : ∀ i H x H', i < n → Y i H x H' → H' = H ∧ xs[i]? = some x)
    {j : Nat} {te : TE} {vs : List Nat} {σ : L2.St} {H1 : Hp} {D : Addr} {Qd : Hp → Prop} (hD : H1 D = none) (hG : ∀ H', Same H1 H' → G H')
    (hw : ∀ x ∈ xs, wipe ((wipe σ vs).set j (some x)) vs = wipe σ vs)
    (R : Nat → Addr → Hp → Prop) (hR : ∀ k v H H', (∀ b o, b ≠ D → H b = some o → H' b = some o) → v ≠ D → R k v H → R k v H') (hE : ∀ k v H, R k v H → ∃ o, H v = some o)
    (he : ∀ (i : Nat) (x : V), xs[i]? = some x → ∀ H2, Same H1 H2 → (∃ o, H2 D = some o) → ∀ Q : VK, (∀ y H3, H2 y = none → Same H2 H3 → R i y H3 → Q (.ref y) H3) → te ((wipe σ vs).set j (some x)) H2 Q)
    (hd : ∀ (H' : Hp) (qs : List Addr), Same H1 H' → H' D = some (.lst (qs.map V.ref)) → qs.Nodup → D ∉ qs → qs.length = n → (∀ (k : Nat) (q : Addr), qs[k]? = some q → R k q H') → Qd H') : LcGoal J (gName j) tYes te vs σ H1 D Qd := by
  refine lc_it w (fun i H' => Same H1 H' ∧ ∃ qs : List Addr, H' D = some (.lst (qs.map V.ref)) ∧ qs.Nodup ∧ D ∉ qs ∧ qs.length = i ∧ ∀ (k : Nat) (v : Addr), qs[k]? = some v → R k v H') ⟨same_new hD, [], upd_same, List.nodup_nil, by simp, rfl, fun k v z => by simp at z⟩ (fun i H' _ e => hG _ e.1) (fun i x H H' hi e y => ?_) (fun H' e => ?_)
  · obtain ⟨rfl, hx⟩ := hY i H x H' hi y
    obtain ⟨e1, qs, e2, nd, nD, e3, e4⟩ := e
    refine ⟨hw _ (List.mem_of_getElem? hx), yes_q (iteT ?_)⟩
    refine he i _ hx _ e1 ⟨_, e2⟩ _ fun y H3 fy s3 r3 => ⟨qs.map V.ref, s3 _ _ e2, ?_, fun b o q => ?_, qs ++ [y], by rw [upd_same, List.map_append]; rfl, ?_, ?_, by rw [List.length_append, e3]; rfl, fun k v z => ?_⟩
    · have : 1000000 < sizeLine := by decide
      rw [List.length_map]
      omega
    · rw [upd_ne (ne_of_none q hD)]
      exact s3 _ _ (e1 _ _ q)
    · rw [List.nodup_append]
      refine ⟨nd, by simp, fun q hq q' hq' z => ?_⟩
      rw [List.mem_singleton.mp hq'] at z
      obtain ⟨k, hk⟩ := List.mem_iff_getElem?.mp hq
      obtain ⟨o, ho⟩ := hE _ _ _ (e4 k q hk)
      rw [z, fy] at ho
      cases ho
    · intro z
      rcases List.mem_append.mp z with z | z
      · exact nD z
      · rw [← List.mem_singleton.mp z, e2] at fy
        cases fy
    · have up : ∀ b o, b ≠ D → H3 b = some o → upd H3 D (.lst (qs.map V.ref ++ [.ref y])) b = some o := fun b o n q => by rw [upd_ne n]; exact q
      have yD : y ≠ D := fun z => by rw [z, e2] at fy; cases fy
      rcases Nat.lt_or_ge k qs.length with hk | hk
      · rw [List.getElem?_append_left hk] at z
        exact hR _ _ _ _ (fun b o n q => up b o n (s3 _ _ q)) (fun q => nD (by rw [← q]; exact List.mem_of_getElem? z)) (e4 k v z)
      · rw [List.getElem?_append_right hk] at z
        have hk2 : k - qs.length = 0 := by
          have := (List.getElem?_eq_some_iff.mp z).1
          simp at this
          omega
        rw [hk2] at z
        obtain rfl : y = v := by simpa using z
        obtain rfl : k = i := by omega
        exact hR _ _ _ _ up yD r3
  · obtain ⟨e1, qs, e2, nd, nD, e3, e4⟩ := e
    exact hd H' qs e1 e2 nd nD e3 e4
end MN
/-! the plain record of prices; _law_signs, _law_made -/
namespace MN
open PySem PySem.Spec PyProof.Rows L2
/-- a record: three dicts in a list -/
def Rec (H : Hp) (t : Addr) (zs zs2 : List Str) (g o : Str → Int) (ps : List ((Str × Str) × Int)) : Prop := ∃ A B S, H t = some (.lst [.ref A, .ref B, .ref S]) ∧ H A = some (.dK (dkF zs g)) ∧ H B = some (.dK (dkF zs2 o)) ∧ H S = some (.dT (dtF ps))
theorem Rec.same {H H' : Hp} {t : Addr} {zs zs2 : List Str} {g o : Str → Int} {ps : List ((Str × Str) × Int)} (h : Rec H t zs zs2 g o ps) (e : Same H H') : Rec H' t zs zs2 g o ps := by
  obtain ⟨A, B, S, h1, h2, h3, h4⟩ := h
  exact ⟨A, B, S, e _ _ h1, e _ _ h2, e _ _ h3, e _ _ h4⟩
/-- prices that stand as a record says -/
def PrS (Cp : Addr) (H : Hp) (x : Addr) (zs : List Str) (g o : Str → Int) (ps : List ((Str × Str) × Int)) : Prop := ∃ dx ys qs, PrAt Cp H x dx ys ys g o qs ∧ PrN ys ys g o qs ∧ ys.Perm zs ∧ (ys.Pairwise fun a b => sL a < sL b) ∧ qs.Perm ps ∧ qs.Pairwise fun a b => kLt a.1 b.1
theorem PrS.same {Cp : Addr} {H H' : Hp} {x : Addr} {zs : List Str} {g o : Str → Int} {ps : List ((Str × Str) × Int)} (h : PrS Cp H x zs g o ps) (e : Same H H') : PrS Cp H' x zs g o ps := by
  obtain ⟨dx, ys, qs, h1, h2⟩ := h
  exact ⟨dx, ys, qs, h1.same e, h2⟩
section
variable {P : Program} {w : World} {K : PySem.W.Frag} {mg : Str → Option Value} {base : Heap} {Cp : Addr}
def spSignsL : Sp := fun vs H Q _ => ∃ p, vs = [.ref p] ∧ Pot H p ∧ ∀ q zs H', SgnOk zs → H q = none → Ex p H H' → H' q = some (.lst (strsV zs)) → Q (.ref q) H'
theorem sc_law_signs02 : FnScope ["_law_pot"] ["_law_pot"] (defScope (top 32)) := ⟨rfl, rfl, rfl, by decide +kernel, rfl, by decide +kernel, by decide +kernel⟩
theorem c_law_signs02 (A : At K mg "_law_signs" (top 32)) (B : Blt mg) (c_law_dip : Cal P w K mg base 1 "_law_dip" spDip) (c_law_shuffled : Cal P w K mg base 2 "_law_shuffled" (spShufI K)) : Cal P w K mg base 3 "_law_signs" spSignsL := by
  refine cal_of A sc_law_signs02 (fun _ _ _ _ _ _ us hl => match us, hl with | [_], _ => rfl) (fun vs H Q E h => ?_) (fun _ cdv A outer s H vs Q E hr h => ?_)
  · obtain ⟨_, rfl, _⟩ := h; rfl
  · obtain ⟨p, rfl, hp, hQ⟩ := h
    refine ⟨_, pss_one (ps_ret (pe_callB cr_sortedS (by rfl) B.sorted (by decide +kernel) (pa_cons (pe_slice sl_list (pe_c c_law_shuffled hr (by decide) (by rfl) (pa_cons (pv 0) (pa_cons pe_str pa_nil))) po_none (po_some (pe_op op_add pe_int (pe_c c_law_dip hr (by decide) (by rfl) (pa_cons (pv 0) (pa_cons pe_int pa_nil)))))) pa_nil))), ?_⟩
    refine ⟨_, rfl, p, _, _, rfl, hp, .inr ⟨"abcde", rfl, rfl⟩, by decide, fun ys q1 H1 hperm hq1 ex1 h1 => ?_⟩
    rw [signsOf_one] at hperm
    obtain ⟨ws, rfl, hws⟩ := perm_strsP hperm
    obtain ⟨a1, b1, c1, hp1⟩ := ex1.pot
    have nqp : q1 ≠ p := by obtain ⟨_, _, _, e⟩ := hp; exact (ne_of_none e hq1).symm
    refine ⟨_, rfl, p, _, a1, b1, c1, rfl, hp1, by omega, by omega, fun r a2 b2 c2 r0 r1 => ?_⟩
    have hq1' : upd H1 p (potO a2 b2 c2) q1 = some (.lst (strsV ws)) := by rw [upd_ne nqp]; exact h1
    have ex2 : Ex p H (upd H1 p (potO a2 b2 c2)) := ex1.trans Ex.turn
    generalize upd H1 p (potO a2 b2 c2) = H2 at ex2 hq1' ⊢
    refine ⟨_, _, rfl, rfl, _, rfl, q1, strsV ws, rfl, SqL.of hq1', fun l hl => ?_⟩
    have ex3 := ex2.new (o := .lst (cutV (strsV ws) none (some (1 + r)))) hl
    have hl3 : upd H2 l (.lst (cutV (strsV ws) none (some (1 + r)))) l = some (.lst (strsV (ws.take (1 + r).toNat))) := by rw [upd_same, cut_to ws (by omega)]
    generalize upd H2 l (.lst (cutV (strsV ws) none (some (1 + r)))) = H3 at ex3 hl3 ⊢
    have hwl : ws.length = 5 := hws.length_eq
    refine ⟨l, ws.take (1 + r).toNat, rfl, SqL.of hl3, ?_, fun zs S hzp hzs hS => ?_⟩
    · rw [List.length_take]; omega
    have ok : SgnOk zs := sgn_drawn hws (by omega) hzp hzs
    exact hQ S zs _ ok (ex3.free hp hS) (ex3.new (o := .lst (strsV zs)) hS) upd_same
def spMade02 (Cp : Addr) : Sp := fun vs H Q _ => ∃ t zs zs2 g o ps, vs = [.ref t] ∧ Rec H t zs zs2 g o ps ∧ PrN zs zs2 g o ps ∧ ∀ x H', Same H H' → PrS Cp H' x zs g o ps → Q (.ref x) H'
theorem sc_law_made02 : FnScope ["_law_tables_here"] ["_law_tables_here"] (defScope (top 34)) := ⟨rfl, rfl, rfl, by decide +kernel, rfl, by decide +kernel, by decide +kernel⟩
theorem c_law_made02 (A : At K mg "_law_made" (top 34)) (B : Blt mg) (SP : SlotC K Cp) (gp : mg "Prices" = some (.ref Cp)) (ip : ∃ f fd, Mk K Cp f ∧ FunAt K "__init__" "Prices.__init__" (inClass (top 25) 1) [] f fd) (c_are_prices2 : Cal P w K mg base 3 "are_prices" spAreP2) : Cal P w K mg base 6 "_law_made" (spMade02 Cp) := by
  obtain ⟨fi, fdi, M, Fi⟩ := ip
  refine cal_of A sc_law_made02 (fun _ _ _ _ _ _ us hl => match us, hl with | [_], _ => rfl) (fun vs H Q E h => ?_) (fun _ cdv A outer s H vs Q E hr h => ?_)
  · obtain ⟨_, _, _, _, _, _, rfl, _⟩ := h; rfl
  · obtain ⟨t, zs, zs2, g, o, ps, rfl, ⟨TA, TB, TS, ht, hA, hB, hS⟩, N, hQ⟩ := h
    refine ⟨_, pss_one (ps_ret (pe_makeKG M (f_pinit3 (P := P) (w := w) (mg := mg) (base := base) SP Fi B c_are_prices2) (hr.mono (by decide)) (by rfl) gp (kb_pinit Fi) pass0
      (pk_cons (pe_ix ix_list (pv 0) pe_int (fun _ _ => rfl)) (pk_cons (pe_ix ix_list (pv 0) pe_int (fun _ _ => rfl)) (pk_cons (pe_ix ix_list (pv 0) pe_int (fun _ _ => rfl)) pk_nil))))), ?_⟩
    refine ⟨_, rfl, t, _, _, _, rfl, rfl, SqL.of ht, rfl, _, rfl, t, _, _, _, rfl, rfl, SqL.of ht, rfl, _, rfl, t, _, _, _, rfl, rfl, SqL.of ht, rfl, rfl, rfl, fun y dy hy hdy n => ?_⟩
    have nx : ∀ b u, H b = some u → b ≠ y ∧ b ≠ dy := fun b u e => ⟨ne_of_none e hy, ne_of_none e hdy⟩
    have up : ∀ b u, H b = some u → upd (upd H dy (.own y)) y (.ins Cp dy []) b = some u := fun b u e => by
      rw [upd_ne (nx b u e).1, upd_ne (nx b u e).2]; exact e
    refine ⟨y, dy, TA, TB, TS, zs, zs2, g, o, ps, rfl, upd_same, by rw [upd_ne n, upd_same], n, up _ _ hA, up _ _ hB, up _ _ hS, N, fun H6 ys qs k2 hP2 N2 pm asc pq srt => ⟨rfl, hQ y H6 (fun b u z => ?_) ⟨dy, ys, qs, hP2, N2, pm, asc, pq, srt⟩⟩⟩
    exact k2 b u (nx _ _ z).1 (nx _ _ z).2 (up _ _ z)
end
end MN
/-! records: one price more, one swap less, fewer signs, so many times (plain law) -/
namespace MN
open PySem PySem.Spec PyProof.Rows L2
abbrev SP2 : Type := (Str × Str) × Int
def putG (g : Str → Int) (z : Str) (n : Int) : Str → Int := fun y => if y = z then n else g y
def putP (ps : List SP2) (k : Str × Str) (n : Int) : List SP2 := if k ∈ ps.map Prod.fst then ps.map (fun e => if e.1 = k then (k, n) else e) else ps ++ [(k, n)]
def dropP (ps : List SP2) (k : Str × Str) : List SP2 := ps.filter fun e => decide (e.1 ≠ k)
def withinP (zs : List Str) (ps : List SP2) : List SP2 := ps.filter fun e => decide (e.1.1 ∈ zs) && decide (e.1.2 ∈ zs)
def timeP (m : Int) (ps : List SP2) : List SP2 := ps.map fun p => (p.1, p.2 * m)
theorem dkF_set {zs : List Str} (g : Str → Int) {z : Str} (hz : z ∈ zs) (n : Int) : putK (dkF zs g) (.inr z) (.int n) = dkF zs (putG g z n) := by
  have h1 : ((dkF zs g).any fun kv => decide (kv.1 = Sum.inr z)) = true := List.any_eq_true.mpr ⟨(Sum.inr z, V.int (g z)), List.mem_map.mpr ⟨z, hz, rfl⟩, decide_eq_true rfl⟩
  unfold putK
  rw [if_pos h1]
  unfold dkF
  rw [List.map_map]
  refine List.map_congr_left fun y _ => ?_
  show (if (Sum.inr y : Key) = Sum.inr z then _ else _) = _
  unfold putG
  by_cases e : y = z
  · rw [if_pos (by rw [e]), if_pos e]
  · rw [if_neg (fun q => e (Sum.inr.inj q)), if_neg e]
theorem kT_iff (e : Str × Str) (a b : Str) : ([Sum.inr e.1, Sum.inr e.2] : List Key) = [.inr a, .inr b] ↔ e = (a, b) := by
  constructor
  · intro h
    injection h with h1 h2
    injection h2 with h2 _
    exact Prod.ext (Sum.inr.inj h1) (Sum.inr.inj h2)
  · rintro rfl; rfl
theorem dtF_set (ps : List SP2) (a b : Str) (n : Int) : putK (dtF ps) [.inr a, .inr b] (.int n) = dtF (putP ps (a, b) n) := by
  unfold putK putP
  by_cases h : (a, b) ∈ ps.map Prod.fst
  · rw [if_pos h, if_pos]
    · unfold dtF
      rw [List.map_map, List.map_map]
      refine List.map_congr_left fun e _ => ?_
      show (if ([Sum.inr e.1.1, Sum.inr e.1.2] : List Key) = [.inr a, .inr b] then _ else _) = _
      by_cases q : e.1 = (a, b)
      · rw [if_pos ((kT_iff e.1 a b).mpr q)]
        simp [q]
      · rw [if_neg (fun z => q ((kT_iff e.1 a b).mp z))]
        simp [q]
    · obtain ⟨e, he, q⟩ := List.mem_map.mp h
      exact List.any_eq_true.mpr ⟨_, List.mem_map.mpr ⟨e, he, rfl⟩, decide_eq_true ((kT_iff e.1 a b).mpr q)⟩
  · rw [if_neg h, if_neg]
    · simp [dtF]
    · intro q
      obtain ⟨kv, h1, h2⟩ := List.any_eq_true.mp q
      obtain ⟨e, he, rfl⟩ := List.mem_map.mp h1
      exact h (List.mem_map.mpr ⟨e, he, (kT_iff e.1 a b).mp (of_decide_eq_true h2)⟩)
theorem dtF_drop (ps : List SP2) (a b : Str) : dropK (dtF ps) [.inr a, .inr b] = dtF (dropP ps (a, b)) := by
  unfold dropK dropP dtF
  rw [List.filter_map]
  congr 1
  refine List.filter_congr fun e _ => ?_
  show decide (([Sum.inr e.1.1, Sum.inr e.1.2] : List Key) ≠ [.inr a, .inr b]) = _
  exact decide_eq_decide.mpr (not_congr (kT_iff e.1 a b))
theorem dropP_no {ps : List SP2} {k : Str × Str} (h : k ∉ ps.map Prod.fst) : dropP ps k = ps :=
  List.filter_eq_self.mpr fun e he => decide_eq_true fun q => h (List.mem_map.mpr ⟨e, he, q⟩)
theorem putP_perm {ps qs : List SP2} (h : ps.Perm qs) (k : Str × Str) (n : Int) : (putP ps k n).Perm (putP qs k n) := by
  unfold putP
  by_cases q : k ∈ ps.map Prod.fst
  · rw [if_pos q, if_pos ((h.map _).mem_iff.mp q)]; exact h.map _
  · rw [if_neg q, if_neg fun z => q ((h.map _).mem_iff.mpr z)]; exact h.append_right _
theorem putP_keys (ps : List SP2) (k : Str × Str) (n : Int) : (putP ps k n).map Prod.fst = if k ∈ ps.map Prod.fst then ps.map Prod.fst else ps.map Prod.fst ++ [k] := by
  unfold putP
  by_cases q : k ∈ ps.map Prod.fst
  · rw [if_pos q, if_pos q, List.map_map]
    refine List.map_congr_left fun e _ => ?_
    show (if e.1 = k then (k, n) else e).1 = e.1
    by_cases z : e.1 = k
    · rw [if_pos z]; exact z.symm
    · rw [if_neg z]
  · rw [if_neg q, if_neg q, List.map_append]; rfl
theorem putP_nd {ps : List SP2} (nd : (ps.map Prod.fst).Nodup) (k : Str × Str) (n : Int) : ((putP ps k n).map Prod.fst).Nodup := by
  rw [putP_keys]
  by_cases q : k ∈ ps.map Prod.fst
  · rw [if_pos q]; exact nd
  · rw [if_neg q]
    exact List.nodup_append.mpr ⟨nd, List.nodup_cons.mpr ⟨List.not_mem_nil, List.nodup_nil⟩, fun a ha b hb e => q (by rw [List.mem_singleton.mp hb] at e; rw [← e]; exact ha)⟩
theorem putP_mem {ps : List SP2} {k : Str × Str} {n : Int} {x : SP2} (h : x ∈ putP ps k n) : x = (k, n) ∨ x ∈ ps := by
  unfold putP at h
  by_cases q : k ∈ ps.map Prod.fst
  · rw [if_pos q] at h
    obtain ⟨e, he, r⟩ := List.mem_map.mp h
    by_cases z : e.1 = k
    · rw [if_pos z] at r; exact .inl r.symm
    · rw [if_neg z] at r; rw [← r]; exact .inr he
  · rw [if_neg q] at h
    rcases List.mem_append.mp h with h | h
    · exact .inr h
    · exact .inl (List.mem_singleton.mp h)
theorem filt_nd {ps : List SP2} (nd : (ps.map Prod.fst).Nodup) (f : SP2 → Bool) : ((ps.filter f).map Prod.fst).Nodup := nd.sublist (List.filter_sublist.map _)
theorem len25 {zs : List Str} {ps : List SP2} (h5 : zs.length ≤ 5) (nd : (ps.map Prod.fst).Nodup) (h : ∀ x ∈ ps, x.1.1 ∈ zs ∧ x.1.2 ∈ zs) : ps.length ≤ 100 := by
  have h1 := len_sub (m := zs.flatMap fun x => zs.map fun y => (x, y)) nd fun e he => by
    obtain ⟨x, hx, rfl⟩ := List.mem_map.mp he
    exact List.mem_flatMap.mpr ⟨x.1.1, (h x hx).1, List.mem_map.mpr ⟨x.1.2, (h x hx).2, rfl⟩⟩
  have e : ∀ (l m : List Str), (l.flatMap fun x => m.map fun y => (x, y)).length = l.length * m.length := by
    intro l m
    induction l with
    | nil => simp
    | cons a l ih => rw [List.flatMap_cons, List.length_append, ih, List.length_map, List.length_cons, Nat.add_mul, Nat.one_mul, Nat.add_comm]
  rw [e, List.length_map] at h1
  have := Nat.mul_le_mul h5 h5
  omega
section
variable {zs zs2 : List Str} {g o : Str → Int} {ps : List SP2}
theorem PrN.setG (N : PrN zs zs2 g o ps) {z : Str} {n : Int} (n1 : 1 ≤ n) (n9 : n ≤ 9) : PrN zs zs2 (putG g z n) o ps :=
by
  refine { N with pg := fun y hy => ?_ }
  unfold putG
  by_cases e : y = z
  · rw [if_pos e]; exact ⟨n1, n9⟩
  · rw [if_neg e]; exact N.pg y hy
theorem PrN.setO (N : PrN zs zs2 g o ps) {z : Str} {n : Int} (n1 : 1 ≤ n) (n9 : n ≤ 9) : PrN zs zs2 g (putG o z n) ps :=
by
  refine { N with po := fun y hy => ?_ }
  unfold putG
  by_cases e : y = z
  · rw [if_pos e]; exact ⟨n1, n9⟩
  · rw [if_neg e]; exact N.po y hy
theorem PrN.setP (N : PrN zs zs2 g o ps) {a b : Str} {n : Int} (ha : a ∈ zs) (hb : b ∈ zs) (ne : a ≠ b) (n1 : 1 ≤ n) (n9 : n ≤ 18) : PrN zs zs2 g o (putP ps (a, b) n) := by
  have sp : ∀ x ∈ putP ps (a, b) n, x.1.1 ∈ zs ∧ x.1.2 ∈ zs ∧ x.1.1 ≠ x.1.2 ∧ 1 ≤ x.2 ∧ x.2 ≤ 18 := fun x hx => by
    rcases putP_mem hx with rfl | h
    · exact ⟨ha, hb, ne, n1, n9⟩
    · exact N.sp x h
  exact { N with sn := putP_nd N.sn _ _, sp := sp, sl := len25 N.le (putP_nd N.sn _ _) fun x hx => ⟨(sp x hx).1, (sp x hx).2.1⟩ }
theorem PrN.filtP (N : PrN zs zs2 g o ps) (f : SP2 → Bool) : PrN zs zs2 g o (ps.filter f) :=
  { N with sn := filt_nd N.sn f, sp := fun x hx => N.sp x ((List.mem_filter.mp hx).1), sl := Nat.le_trans (List.length_filter_le ..) N.sl }
theorem PrN.within (N : PrN zs zs2 g o ps) {ws : List Str} (hs : ∀ z ∈ ws, z ∈ zs) (nd : ws.Nodup) (pos : 0 < ws.length) : PrN ws ws g o (withinP ws ps) := by
  have l5 : ws.length ≤ 5 := Nat.le_trans (len_sub nd hs) N.le
  exact ⟨fun z h => N.sg z (hs z h), nd, pos, l5, List.Perm.refl _, fun z h => N.pg z (hs z h), fun z h => N.po z (hs z h), filt_nd N.sn _, fun x hx => by
    unfold withinP at hx
    obtain ⟨h1, h2⟩ := List.mem_filter.mp hx
    rw [Bool.and_eq_true] at h2
    exact ⟨of_decide_eq_true h2.1, of_decide_eq_true h2.2, (N.sp x h1).2.2⟩, Nat.le_trans (List.length_filter_le ..) N.sl⟩
theorem timeP_keys (m : Int) (ps : List SP2) : (timeP m ps).map Prod.fst = ps.map Prod.fst := by unfold timeP; rw [List.map_map]; rfl
theorem PrN.time (N : PrN zs zs2 g o ps) {m : Int} (m1 : 1 ≤ m) (hg : ∀ z ∈ zs, g z * m ≤ 9) (ho : ∀ z ∈ zs, o z * m ≤ 9) (hp : ∀ x ∈ ps, x.2 * m ≤ 18) : PrN zs zs2 (fun z => g z * m) (fun z => o z * m) (timeP m ps) := by
  have up : ∀ n : Int, 1 ≤ n → 1 ≤ n * m := fun n h => by
    have := Int.mul_le_mul h m1 (by decide) (by omega)
    omega
  refine { N with pg := fun z h => ⟨up _ (N.pg z h).1, hg z h⟩, po := fun z h => ⟨up _ (N.po z h).1, ho z h⟩, sn := by rw [timeP_keys]; exact N.sn, sp := fun x hx => ?_, sl := by unfold timeP; rw [List.length_map]; exact N.sl }
  unfold timeP at hx
  obtain ⟨e, he, rfl⟩ := List.mem_map.mp hx
  obtain ⟨a, b, c, d, _⟩ := N.sp e he
  exact ⟨a, b, c, up _ d, hp e he⟩
end
end MN
/-! the class Prices of k02; __eq__ with a list or an int; str(x) by an own __str__ -/
namespace MN
open PySem PySem.Spec PyProof.Rows L2
section
variable {prog : Program} {w : World} {A : Around} {E : Value → Shared → Prop} {s : Shared} {K : PySem.W.Frag} {x C f : Addr} {ox : Obj} {od : Option Obj}
theorem strOf_own {Q : Value → Shared → Prop} (u : A.units < cLine) (X : K.In s.heap) (I : PySem.W.InstAt s.heap x ox C od) (hs : PySem.W.findIn K (.ref C) "__str__" = some (some (.ref f))) (hf : PySem.W.isFn K (.ref f) = true)
    (h : wpAny (model prog w) A (call (.ref f) [.ref x]) (fun r s' => ∃ z t, r = .str z t ∧ Q (.str z t) s') E s) : wpAny (model prog w) A (Builtin.Str.strOf (.ref x)) Q E s := by
  unfold Builtin.Str.strOf
  show wpAny _ _ (if false = true then _ else _) _ _ _
  rw [if_neg (by decide)]
  refine wpAny_bind (m := cRoomFor _ _) (wpAny_cRoomFor u ?_)
  refine wpAny_bind (m := callSpecial? (.ref x) (Str.ofString "__str__")) (PySem.W.special_fn X I hs (beq_iff_eq.mp hf) (wpAny_mono h (fun r s' hr => ?_) fun _ _ y => y))
  obtain ⟨z, t, rfl, q⟩ := hr
  exact wpAny_bind (wpAny_pure (wpAny_pure q))
theorem str_own {Q : Value → Shared → Prop} (u : A.in1.in1.units < cLine) (X : K.In s.heap) (I : PySem.W.InstAt s.heap x ox C od) (hs : PySem.W.findIn K (.ref C) "__str__" = some (some (.ref f))) (hf : PySem.W.isFn K (.ref f) = true)
    (h : wpAny (model prog w) A.in1.in1 (call (.ref f) [.ref x]) (fun r s' => ∃ z t, r = .str z t ∧ Q (.str z t) s') E s) : wpAny (model prog w) A (call (.type "str") [.ref x]) Q E s := by
  refine callType_newIn (S := fun A R s => wpAny (model prog w) A.in1 (Builtin.Str.strOf (.ref x)) (fun r s' => R (.ok (.ret r)) s') (fun e s' => R (.error e) s') s) F.called_str (by decide) (F.typeCall_str_1 _) (F.newCall_str_1 _) (fun obj => F.args_object_init_2 obj _) F.entry_str_new ?_ ?_
  · refine MeetsIn.of_wp fun A R s h => ?_
    rw [str_new_tree (.ref x)]
    refine wpAny_bind (wpAny_pure ?_)
    refine wpAny_bind (wpAny_of_eq isSubtype_str_str ?_)
    exact wpAny_bind (wpAny_mono h (fun r s' h' => wpAny_pure ⟨_, rfl, h'⟩) fun _ _ e => e)
  · refine strOf_own u X I hs hf (wpAny_mono h (fun r s' hr => ?_) fun _ _ y => y)
    obtain ⟨z, t, rfl, q⟩ := hr
    exact ⟨z, t, rfl, typeIs_str _ _ _, q⟩
end
section
variable {X : Cx}
def rStrOwn (C : Addr) (sp : Sp) (E : XK) : List V → Hp → VK → Prop := fun xs H Q => ∃ a dx vs, xs = [.ref a] ∧ SlX.Slt H a C dx vs ∧ sp [.ref a] H (fun v H' => ∃ z, v = .str z ∧ Q (.str z) H') E
theorem call_strOwn {CX : CXT} {n : Nat} {C g : Addr} {sp : Sp} {E : XK} (hs : PySem.W.findIn X.K (.ref C) "__str__" = some (some (.ref g))) (hf : PySem.W.isFn X.K (.ref g) = true) (F : FnR X.prog X.w X.K X.mg X.base CX n g sp) (hr : Room (n + 2) X.A) (hx : Passes CX X E) : CallR X (.type "str") (rStrOwn C sp E) := by
  intro pins s σ H xs us Q I r h
  obtain ⟨a, dx, vs, rfl, hsl, q⟩ := h
  obtain ⟨u, rfl, ru⟩ := r.one
  cases (show u = Value.ref a from ru)
  obtain ⟨sl, od, _, J, _⟩ := SlX.slt_inst I hsl
  have hr1 : Room (n + 1) X.A.in1 := Room.in1 hr
  have hr2 : Room n X.A.in1.in1 := Room.in1 hr1
  refine str_own hr2.units0 I.kIn J hs hf (wpAny_mono (wpAny_call (SlX.run_at (us := [.ref a]) (ws := [.ref a]) F hr2 I.env0.in1.in1 hx I (.cons rfl .nil) q)) (fun w s' z => ?_) fun _ _ x => x)
  obtain ⟨z', H', I', rz, i, ei, qz⟩ := z
  subst ei
  obtain ⟨t, e⟩ := (show ∃ t, w = Value.str i t from rz)
  cases e
  exact ⟨i, t, rfl, .str i, H', I', ⟨_, rfl⟩, qz⟩
end
/-- the class Prices of k02 -/
structure PrD (K : PySem.W.Frag) (mg : Str → Option Value) (Cp : Addr) : Prop where
  sp : SlotC K Cp
  gp : mg "Prices" = some (.ref Cp)
  ip : ∃ f fd, Mk K Cp f ∧ FunAt K "__init__" "Prices.__init__" (inClass (top 25) 1) [] f fd
  si : SlX.SIsi K Cp
  isP : PySem.W.kitOne K (.ref Cp) (.ref Cp) = some true
  isL : PySem.W.kitOne K (.type "list") (.ref Cp) = some false
  isI : PySem.W.kitOne K (.type "int") (.ref Cp) = some false
  pput : ∃ p g fd, PropOf K Cp "put" p g ∧ FunAt K "put" "Prices.put" (inClass (top 25) 4) [] g fd
  pout : ∃ p g fd, PropOf K Cp "out" p g ∧ FunAt K "out" "Prices.out" (inClass (top 25) 5) [] g fd
  pswap : ∃ p g fd, PropOf K Cp "swap" p g ∧ FunAt K "swap" "Prices.swap" (inClass (top 25) 6) [] g fd
  psig : ∃ p g fd, PropOf K Cp "signs" p g ∧ FunAt K "signs" "Prices.signs" (inClass (top 25) 3) [] g fd
  psml : ∃ p g fd, PropOf K Cp "smallest" p g ∧ FunAt K "smallest" "Prices.smallest" (inClass (top 25) 7) [] g fd
  eq : ∃ g fd, PySem.W.findIn K (.ref Cp) "__eq__" = some (some (.ref g)) ∧ PySem.W.isFn K (.ref g) = true ∧ FunAt K "__eq__" "Prices.__eq__" (inClass (top 25) 16) [] g fd
  ne : PySem.W.findIn K (.ref Cp) "__ne__" = some (some (.builtin "object.__ne__"))
  ob : PySem.W.subIn K (.ref Cp) (.type "object") = some true
  nfl : PySem.W.notFirst K Cp (.type "list") = true
  nfi : PySem.W.notFirst K Cp (.type "int") = true
  nfp : PySem.W.notFirst K Cp (.ref Cp) = true
  len : ∃ g fd, PySem.W.findIn K (.ref Cp) "__len__" = some (some (.ref g)) ∧ PySem.W.isFn K (.ref g) = true ∧ FunAt K "__len__" "Prices.__len__" (inClass (top 25) 15) [] g fd
  con : ∃ g fd, PySem.W.findIn K (.ref Cp) "__contains__" = some (some (.ref g)) ∧ PySem.W.isFn K (.ref g) = true ∧ FunAt K "__contains__" "Prices.__contains__" (inClass (top 25) 14) [] g fd
  st : ∃ g fd, PySem.W.findIn K (.ref Cp) "__str__" = some (some (.ref g)) ∧ PySem.W.isFn K (.ref g) = true ∧ FunAt K "__str__" "Prices.__str__" (inClass (top 25) 17) [] g fd
  wp : ∃ g fd, Meth K Cp "with_price" g ∧ FunAt K "with_price" "Prices.with_price" (inClass (top 25) 11) [] g fd
  lim : ∃ g fd, Meth K Cp "limited" g ∧ FunAt K "limited" "Prices.limited" (inClass (top 25) 12) [] g fd
  tim : ∃ g fd, Meth K Cp "times" g ∧ FunAt K "times" "Prices.times" (inClass (top 25) 13) [] g fd
  ev : EvnC K Cp
section
variable {P : Program} {w : World} {K : PySem.W.Frag} {mg : Str → Option Value} {base : Heap} {Cp : Addr}
/-- == with prices, a list, an int -/
def spEqA (K : PySem.W.Frag) (Cp : Addr) : Sp := fun vs H Q _ => ∃ x dx ys ys2 g o qs v, vs = [.ref x, v] ∧ PrAt Cp H x dx ys ys2 g o qs ∧ ((∃ y dy zs zs2 g' o' ps, v = .ref y ∧ PrAt Cp H y dy zs zs2 g' o' ps ∧ Q (.bl (eqPr ys ys2 g o qs zs zs2 g' o' ps)) H) ∨
  (∃ t, (t = Value.type "list" ∨ t = Value.type "int") ∧ TyX K H v t ∧ Q (.bl false) H))
theorem f_peqA {f : Addr} {fd : FuncData} (PD : PrD K mg Cp) (F : FunAt K "__eq__" "Prices.__eq__" (inClass (top 25) 16) [] f fd) (B : Blt mg) : FnOk P w K mg base CX0 1 f fd ["self", "other"] (spEqA K Cp) := by
  have SP := PD.sp
  refine fnok_of F sc_peq (fun vs H Q E h => ?_) (fun cdv A outer s H vs Q E hr h => ?_)
  · obtain ⟨_, _, _, _, _, _, _, _, rfl, _⟩ := h; rfl
  · obtain ⟨x, dx, ys, ys2, g, o, qs, v, rfl, hP, hQ⟩ := h
    have GF : GlC mg "Prices" (.ref Cp) := ⟨_, PD.gp, rfl⟩
    obtain ⟨p1, s1⟩ := SP.s1
    obtain ⟨p0, s0⟩ := SP.s0
    obtain ⟨p2, s2⟩ := SP.s2
    refine ⟨_, pss_one (ps_ret (pe_and (pe_or2 (pe_callB (SlX.call_isiSl (.ref Cp)) (by rfl) B.isinstance (by decide +kernel) (pa_cons (pv 1) (pa_cons (pe_gl (by rfl) GF) pa_nil))) (pe_callB call_isi (by rfl) B.isinstance (by decide +kernel) (pa_cons (pv 1) (pa_cons (pe_gl (by rfl) GF) pa_nil))))
      (pe_and (pe_cmpR (op_eqDK hr.units) (SlX.pe_sl (pv 0)) (SlX.pe_sl (pv 1)) (nomark _)) (pe_and (pe_cmpR (op_eqDK hr.units) (SlX.pe_sl (pv 0)) (SlX.pe_sl (pv 1)) (nomark _)) (pe_one (pe_cmpR (op_eqDT hr.units) (SlX.pe_sl (pv 0)) (SlX.pe_sl (pv 1)) (nomark _))))))), ?_⟩
    rcases hQ with ⟨y, dy, zs, zs2, g', o', ps, rfl, hP', hQ⟩ | ⟨t, ht, ty, hQ⟩
    · obtain ⟨PA, PB, PS, ws, hs, w1, w0, w2, nAB, hA, hB, hS⟩ := hP
      obtain ⟨PA', PB', PS', ws', hs', w1', w0', w2', nAB', hA', hB', hS'⟩ := hP'
      refine .inl ⟨_, rfl, y, Cp, dy, ws', _, true, rfl, rfl, fun w e => e, .inr hs', SP.sc, PD.si, PD.isP, ?_⟩
      rw [dkF_kI] at hA hB hA' hB'
      rw [dtF_kT] at hS hS'
      refine ⟨true, rfl, ?_⟩
      rw [if_pos rfl]
      refine ⟨_, rfl, x, Cp, dx, p1, ws, 1, _, rfl, .inr hs, SP.sc, s1, w1, _, rfl, y, Cp, dy, p1, ws', 1, _, rfl, .inr hs', SP.sc, s1, w1', PA, PA', _, _, rfl, rfl, hA, hA', ?_⟩
      refine ⟨_, rfl, ?_⟩
      unfold eqPr at hQ
      cases e1 : eqKv (kI ys g) (kI zs g') with
      | false =>
        rw [e1, Bool.false_and] at hQ
        rw [if_neg (by decide)]
        exact hQ
      | true =>
        rw [e1, Bool.true_and] at hQ
        rw [if_pos rfl]
        refine ⟨_, rfl, x, Cp, dx, p0, ws, 0, _, rfl, .inr hs, SP.sc, s0, w0, _, rfl, y, Cp, dy, p0, ws', 0, _, rfl, .inr hs', SP.sc, s0, w0', PB, PB', _, _, rfl, rfl, hB, hB', ?_⟩
        refine ⟨_, rfl, ?_⟩
        cases e2 : eqKv (kI ys2 o) (kI zs2 o') with
        | false =>
          rw [e2, Bool.false_and] at hQ
          rw [if_neg (by decide)]
          exact hQ
        | true =>
          rw [e2, Bool.true_and] at hQ
          rw [if_pos rfl]
          exact ⟨_, rfl, x, Cp, dx, p2, ws, 2, _, rfl, .inr hs, SP.sc, s2, w2, _, rfl, y, Cp, dy, p2, ws', 2, _, rfl, .inr hs', SP.sc, s2, w2', PS, PS', _, _, rfl, rfl, hS, hS', hQ⟩
    · refine .inr ⟨_, rfl, v, .ref Cp, t, .ref Cp, false, rfl, .own Cp, ty, ?_, false, rfl, iteF hQ⟩
      rcases ht with rfl | rfl
      · exact PD.isL
      · exact PD.isI
end
end MN
/-! is_kind_of_change of what is one -/
namespace MN
open PySem PySem.Spec PyProof.Rows L2
theorem iteDT {p : Prop} [Decidable p] {Q R : Prop} (h : p) (q : Q) : if decide p = true then Q else R := by rw [if_pos (decide_eq_true h)]; exact q
theorem iteDF {p : Prop} [Decidable p] {Q R : Prop} (h : ¬ p) (r : R) : if decide p = true then Q else R := by rw [if_neg (by rw [decide_eq_false h]; decide)]; exact r
section
variable {P : Program} {w : World} {K : PySem.W.Frag} {mg : Str → Option Value} {base : Heap}
def KindV (K : PySem.W.Frag) (H : Hp) (t : Addr) (kvs : List (Key × V)) : Prop := (∃ c z, SqT K H t [.str c, .str z] ∧ (c = "put" ∨ c = "out") ∧ isSign (.str z) = true ∧ ∃ v, valV kvs (.inr z) = some v) ∨
  ∃ x y, SqT K H t [.str "swap", .str x, .str y] ∧ isSign (.str x) = true ∧ isSign (.str y) = true ∧ (∃ v, valV kvs (.inr x) = some v) ∧ (∃ v, valV kvs (.inr y) = some v) ∧ x ≠ y
def spKic (K : PySem.W.Frag) : Sp := fun vs H Q _ => ∃ t d kvs, vs = [.ref t, .ref d] ∧ KindV K H t kvs ∧ H d = some (.dK kvs) ∧ ∀ H', Same H H' → Q (.bl true) H'
theorem sc_kic : FnScope ["value", "signs"] ["value", "signs"] (defScope (top 22)) := ⟨rfl, rfl, rfl, by decide +kernel, rfl, by decide +kernel, by decide +kernel⟩
theorem c_kic (A : At K mg "is_kind_of_change" (top 22)) (B : Blt mg) (GS : GlC mg "SWAP" (.str "swap")) (GP : GlC mg "PUT" (.str "put")) (GO : GlC mg "OUT" (.str "out")) (c_is_sign : Cal P w K mg base 1 "is_sign" (spIsSign K)) (c_is_pair : Cal P w K mg base 2 "is_pair" (spIsPair K)) : Cal P w K mg base 3 "is_kind_of_change" (spKic K) := by
  refine cal_of A sc_kic (fun _ _ _ _ _ _ us hl => match us, hl with | [_, _], _ => rfl) (fun vs H Q E h => ?_) (fun f cdv A outer s H vs Q E hr h => ?_)
  · obtain ⟨_, _, _, rfl, _⟩ := h; rfl
  · obtain ⟨t, d, kvs, rfl, hk, hd, hQ⟩ := h
    refine ⟨_, (pss_cons (ps_if (PW.pt (pw_or (pt_not (pt_val (pe_callB call_isS (by rfl) B.isinstance (by decide +kernel) (pa_cons (pv 0) (pa_cons (pe_bltn (v := .ty "tuple") (by rfl) B.tuple (by decide +kernel) rfl) pa_nil))))) (pw_or (pt_cmpR op_eq (pe_callB call_len_seq (by rfl) B.len (by decide +kernel) (pa_cons (pv 0) pa_nil)) pe_int (nomark _)) (pw_or1 (pt_not (pt_val (pe_callB call_isS (by rfl) B.isinstance (by decide +kernel) (pa_cons (pe_ix ix_tup (pv 0) pe_int (fun _ _ => rfl)) (pa_cons (pe_bltn (v := .ty "str") (by rfl) B.str (by decide +kernel) rfl) pa_nil)))))))))
      (pss_one (ps_ret pe_bl))
      pss_nil)
      (pss_cons (ps_if (pt_cmpR op_eq (pe_ix ix_tup (pv 0) pe_int (fun _ _ => rfl)) (pe_gl (by rfl) GS) (nomark _))
      (pss_one (ps_ret (pe_c c_is_pair hr (by decide) (by rfl) (pa_cons (pe_slice sl_tup (pv 0) (po_some pe_int) po_none) (pa_cons (pv 1) pa_nil)))))
      pss_nil)
      (pss_one (ps_ret (pe_and (pe_cmpR op_in_seq (pe_ix ix_tup (pv 0) pe_int (fun _ _ => rfl)) (pe_tup (pa_cons (pe_gl (by rfl) GP) (pa_cons (pe_gl (by rfl) GO) pa_nil))) (by rfl)) (pe_and (pe_cmpR op_eq (pe_callB call_len_seq (by rfl) B.len (by decide +kernel) (pa_cons (pv 0) pa_nil)) pe_int (nomark _)) (pe_and (pe_c c_is_sign hr (by decide) (by rfl) (pa_cons (pe_ix ix_tup (pv 0) pe_int (fun _ _ => rfl)) pa_nil)) (pe_one (pe_cmp (pc_din (hu_of hr) (pe_ix ix_tup (pv 0) pe_int (fun _ _ => rfl)) (pv 1)) rfl))))))))), ?_⟩
    rcases hk with ⟨c, z, ht, hc, sz, ⟨v1, g1⟩⟩ | ⟨x, y, ht, sx, sy, g1, g2, ne⟩
    · refine ⟨_, rfl, .ref t, "tuple", true, rfl, .ty (tyT ht) (by decide +kernel), _, rfl, iteF ?_⟩
      refine ⟨_, rfl, t, _, rfl, .inr ht, rfl, _, rfl, iteF ?_⟩
      refine ⟨_, rfl, t, _, _, _, rfl, rfl, ht, rfl, _, "str", true, rfl, IsX.str, _, rfl, iteF ?_⟩
      refine ⟨_, rfl, t, _, _, _, rfl, rfl, ht, rfl, rfl, _, rfl, ?_⟩
      refine iteDF (fun q => by injection q with q; subst q; revert hc; decide +kernel) ?_
      refine ⟨_, rfl, t, _, _, _, rfl, rfl, ht, rfl, (by show 2 ≤ sizeLine; decide), fun p hp => ?_⟩
      have e1 := same_new (o := .tup [.str "put", .str "out"]) hp
      have ht1 := Same.seqT e1 ht
      refine ⟨p, _, rfl, .inr (.inl (.inl upd_same)), rfl, rfl, true, ?_, iteT ?_⟩
      · rcases hc with rfl | rfl <;> congr 1
      refine ⟨_, rfl, t, _, rfl, .inr ht1, rfl, true, rfl, iteT ?_⟩
      refine ⟨_, rfl, t, _, _, _, rfl, rfl, ht1, rfl, _, rfl, .str (by rw [(show z.length = 1 by simp [isSign] at sz; exact sz.1)]; decide), ?_⟩
      rw [sz]
      refine ⟨true, rfl, iteT ?_⟩
      refine ⟨_, rfl, t, _, _, _, rfl, rfl, ht1, rfl, _, rfl, d, some v1, rfl, .inl ⟨kvs, .inr z, .inl (e1 _ _ hd), rfl, g1.symm⟩, ?_⟩
      exact hQ _ e1
    · refine ⟨_, rfl, .ref t, "tuple", true, rfl, .ty (tyT ht) (by decide +kernel), _, rfl, iteF ?_⟩
      refine ⟨_, rfl, t, _, rfl, .inr ht, rfl, _, rfl, iteF ?_⟩
      refine ⟨_, rfl, t, _, _, _, rfl, rfl, ht, rfl, _, "str", true, rfl, IsX.str, _, rfl, iteF ?_⟩
      refine ⟨_, rfl, t, _, _, _, rfl, rfl, ht, rfl, rfl, _, rfl, iteDT rfl ?_⟩
      refine ⟨_, rfl, _, rfl, t, _, rfl, ht, (fun q => absurd (show HT.sIx 3 0 (some 1) = 0 from q.1) (by decide)), fun p hp => ?_⟩
      have e1 := same_new (o := .tup (cutV [.str "swap", .str x, .str y] (some 1) none)) hp
      have u1 : upd H p (.tup (cutV [.str "swap", .str x, .str y] (some 1) none)) p = some (.tup [.str x, .str y]) := upd_same
      exact ⟨_, rfl, p, d, x, y, kvs, rfl, .inl (.inl u1), e1 _ _ hd, sx, sy, g1, g2, ne, fun H' e' => hQ _ (e1.trans e')⟩
end
end MN
/-! Prices.with_price of right kinds and prices -/
namespace MN
open PySem PySem.Spec PyProof.Rows L2
theorem PrS.mk' {Cp : Addr} {H : Hp} {x dx : Addr} {ys zs : List Str} {g o : Str → Int} {qs ps : List SP2} (h1 : PrAt Cp H x dx ys ys g o qs) (h2 : PrN ys ys g o qs) (h3 : ys.Perm zs) (h4 : ys.Pairwise fun a b => sL a < sL b) (h5 : qs.Perm ps) (h6 : qs.Pairwise fun a b => kLt a.1 b.1) : PrS Cp H x zs g o ps := ⟨dx, ys, qs, h1, h2, h3, h4, h5, h6⟩
theorem perm_sorted {ys zs : List Str} (h : ys.Perm zs) {ys' : List Str} (h' : ys'.Perm ys) : ys'.Perm zs := h'.trans h
def tabs3 (d1 d2 d3 : Addr) : List (Key × V) := [(.inr "put", .ref d1), (.inr "out", .ref d2), (.inr "swap", .ref d3)]
section
variable {P : Program} {w : World} {K : PySem.W.Frag} {mg : Str → Option Value} {base : Heap} {Cp : Addr}
/-- the properties, as they are read -/
theorem r_props2 (PD : PrD K mg Cp) (B : Blt mg) : (∃ p g, PropOf K Cp "put" p g ∧ FnR P w K mg base CX0 1 g (fun vs H Q E => spPut0 Cp (vs ++ []) H Q E)) ∧ (∃ p g, PropOf K Cp "out" p g ∧ FnR P w K mg base CX0 1 g (fun vs H Q E => spOut0 Cp (vs ++ []) H Q E)) ∧ ∃ p g, PropOf K Cp "swap" p g ∧ FnR P w K mg base CX0 1 g (fun vs H Q E => spSwap0 Cp (vs ++ []) H Q E) := by
  obtain ⟨p1, g1, fd1, h1, F1⟩ := PD.pput
  obtain ⟨p2, g2, fd2, h2, F2⟩ := PD.pout
  obtain ⟨p3, g3, fd3, h3, F3⟩ := PD.pswap
  have b1 := FunD.bindsN (ps := ["self"]) F1 fun _ _ _ _ _ _ us hl => match us, hl with | [_], _ => rfl
  have b2 := FunD.bindsN (ps := ["self"]) F2 fun _ _ _ _ _ _ us hl => match us, hl with | [_], _ => rfl
  have b3 := FunD.bindsN (ps := ["self"]) F3 fun _ _ _ _ _ _ us hl => match us, hl with | [_], _ => rfl
  exact ⟨⟨p1, g1, h1, (f_pput0 PD.sp F1 B).raw b1 .nil⟩, ⟨p2, g2, h2, (f_pout0 PD.sp F2 B).raw b2 .nil⟩, ⟨p3, g3, h3, (f_pswap0 PD.sp F3 B).raw b3 .nil⟩⟩
def spWith02 (K : PySem.W.Frag) (Cp : Addr) : Sp := fun vs H Q _ => ∃ x t v zs g o ps, vs = [.ref x, .ref t, v] ∧ PrS Cp H x zs g o ps ∧ (
  (∃ z n, SqT K H t [.str "put", .str z] ∧ v = .int n ∧ z ∈ zs ∧ 1 ≤ n ∧ n ≤ 9 ∧ ∀ y H', Same H H' → PrS Cp H' y zs (putG g z n) o ps → Q (.ref y) H') ∨
  (∃ z n, SqT K H t [.str "out", .str z] ∧ v = .int n ∧ z ∈ zs ∧ 1 ≤ n ∧ n ≤ 9 ∧ ∀ y H', Same H H' → PrS Cp H' y zs g (putG o z n) ps → Q (.ref y) H') ∨
  (∃ a b n, SqT K H t [.str "swap", .str a, .str b] ∧ v = .int n ∧ a ∈ zs ∧ b ∈ zs ∧ a ≠ b ∧ 1 ≤ n ∧ n ≤ 18 ∧ ∀ y H', Same H H' → PrS Cp H' y zs g o (putP ps (a, b) n) → Q (.ref y) H') ∨
  (∃ a b, SqT K H t [.str "swap", .str a, .str b] ∧ v = .non ∧ a ∈ zs ∧ b ∈ zs ∧ a ≠ b ∧ ∀ y H', Same H H' → PrS Cp H' y zs g o (dropP ps (a, b)) → Q (.ref y) H'))
abbrev N_pwith : List Str := ["self", "change", "price", "is_swap", "tables", "key"]
theorem sc_pwith : FnScope N_pwith ["self", "change", "price"] (defScope (inClass (top 25) 11)) := ⟨rfl, rfl, rfl, by decide +kernel, rfl, by decide +kernel, by decide +kernel⟩
theorem f_pwith {f : Addr} {fd : FuncData} (PD : PrD K mg Cp) (F : FunAt K "with_price" "Prices.with_price" (inClass (top 25) 11) [] f fd) (B : Blt mg) (GS : GlC mg "SWAP" (.str "swap")) (GP : GlC mg "PUT" (.str "put")) (GO : GlC mg "OUT" (.str "out")) (GM : GlC mg "MAX_PRICE" (.int 9)) (GW : GlC mg "MAX_SWAP" (.int 18))
    (c_kic : Cal P w K mg base 3 "is_kind_of_change" (spKic K)) (c_is_price : Cal P w K mg base 2 "is_price" (spIsPrice K)) (c_are_prices2 : Cal P w K mg base 3 "are_prices" spAreP2) : FnOk P w K mg base CX0 6 f fd ["self", "change", "price"] (spWith02 K Cp) := by
  have SP := PD.sp
  obtain ⟨fi, fdi, M, Fi⟩ := PD.ip
  obtain ⟨⟨pp1, pg1, hpp, Fp⟩, ⟨pp2, pg2, hpo, Fo⟩, ⟨pp3, pg3, hpw, Fw⟩⟩ := r_props2 (P := P) (w := w) (base := base) PD B
  refine fnok_of F sc_pwith (fun vs H Q E h => ?_) (fun cdv A outer s H vs Q E hr h => ?_)
  · obtain ⟨_, _, _, _, _, _, _, rfl, _⟩ := h; rfl
  · obtain ⟨x, t, v, zs, g, o, ps, rfl, ⟨dx, ys, qs, hP, N, pm, asc, pq, srt⟩, hQ⟩ := h
    obtain ⟨p1, s1⟩ := SP.s1
    refine ⟨_, pss_cons (ps_if (pt_not (pt_val (pe_c c_kic hr (by decide) (by rfl) (pa_cons (pv 1) (pa_cons (SlX.pe_sl (pv 0)) pa_nil))))) (pss_one ps_never) pss_nil)
      (pss_cons (ps_set (i := 3) sc_pwith.nd rfl (Or.inl rfl) (pe_cmpR op_eq (pe_ix ix_tup (pv 1) pe_int (fun _ _ => rfl)) (pe_gl (by rfl) GS) (nomark _)))
      (pss_cons (ps_if (PW.pt (pw_and (pt_not (pt_val (pe_c c_is_price hr (by decide) (by rfl) (pa_cons (pv 2) (pa_cons (pe_ifExp (pt_val (pv 3)) (pe_gl (by rfl) GW) (pe_gl (by rfl) GM)) pa_nil))))) (pw_and1 (pt_not (PW.pt (pw_and (pt_val (pv 3)) (pw_and1 (pt_cmpR op_isN (pv 2) pe_non (nomark _))))))))) (pss_one ps_never) pss_nil)
      (pss_cons (ps_set (i := 4) sc_pwith.nd rfl (Or.inl rfl) (pe_dispP (.dK []) (.inl rfl) (hu_of hr) (pps_cons (pe_gl (by rfl) GP) (SlX.pe_propSl (E := E0) (pv 0) SP.sc hpp.at_ hpp.get hpp.tak hpp.rec_ Fp (hr.mono (by decide)) (fun _ _ _ _ h => h)) (pps_cons (pe_gl (by rfl) GO) (SlX.pe_propSl (E := E0) (pv 0) SP.sc hpo.at_ hpo.get hpo.tak hpo.rec_ Fo (hr.mono (by decide)) (fun _ _ _ _ h => h)) (pps_cons (pe_gl (by rfl) GS) (SlX.pe_propSl (E := E0) (pv 0) SP.sc hpw.at_ hpw.get hpw.tak hpw.rec_ Fw (hr.mono (by decide)) (fun _ _ _ _ h => h)) pps_nil))) rfl rfl (by decide) (by decide)))
      (pss_cons (ps_set (i := 5) sc_pwith.nd rfl (Or.inl rfl) (pe_ifExp (pt_val (pv 3)) (pe_slice sl_tup (pv 1) (po_some pe_int) po_none) (pe_ix ix_tup (pv 1) pe_int (fun _ _ => rfl))))
      (pss_cons (ps_if (pt_cmpR op_isN (pv 2) pe_non (nomark _)) (pss_one (ps_expr (pe_dpopT hr.units (pe_dget (hu_of hr) (pv 4) (pe_gl (by rfl) GS) (fun _ _ => rfl)) (pv 5) pe_non ⟨rfl, rfl, rfl, rfl⟩))) (pss_one (ps_asg (pv 2) (pg_sub (pe_dget (hu_of hr) (pv 4) (pe_ix ix_tup (pv 1) pe_int (fun _ _ => rfl)) (fun _ _ => rfl)) (pv 5) (set_dict (hu_of hr))))))
      (pss_one (ps_ret (pe_makeKG M (f_pinit3 (P := P) (w := w) (mg := mg) (base := base) SP Fi B c_are_prices2) (hr.mono (by decide)) (by rfl) PD.gp (kb_pinit Fi) pass0
        (pk_cons (pe_dget (hu_of hr) (pv 4) (pe_gl (by rfl) GP) (fun _ _ => rfl)) (pk_cons (pe_dget (hu_of hr) (pv 4) (pe_gl (by rfl) GO) (fun _ _ => rfl)) (pk_cons (pe_dget (hu_of hr) (pv 4) (pe_gl (by rfl) GS) (fun _ _ => rfl)) pk_nil))))))))))), ?_⟩
    obtain ⟨PA, PB, PS, ws, hs, w1, w0, w2, nAB, hA, hB, hS⟩ := id hP
    rcases hQ with q0 | q0 | q0 | q0
    · obtain ⟨z, n, ht, rfl, hz0, n1, n9, hQ⟩ := q0
      have hz : z ∈ ys := pm.mem_iff.mpr hz0
      have kd : KindV K H t (dkF ys g) := .inl ⟨_, z, ht, .inl rfl, isSign_one (N.sg z hz), _, dkF_val N.nd g hz⟩
      refine ⟨_, rfl, _, rfl, x, Cp, dx, p1, ws, 1, _, rfl, .inr hs, SP.sc, s1, w1, t, PA, _, rfl, kd, hA, fun H1 e1 => ⟨_, rfl, iteF ?_⟩⟩
      have ht1 := Same.seqT e1 ht
      refine ⟨_, rfl, t, _, _, _, rfl, rfl, ht1, rfl, rfl, ?_⟩
      have es : decide (V.str "put" = V.str "swap") = false := by decide +kernel
      rw [es]
      refine ⟨_, rfl, _, rfl, _, rfl, ?_⟩
      refine iteF ?_
      refine ⟨_, _, rfl, .inl ⟨n, rfl, ?_⟩⟩
      rw [isInt_of (by omega) (by omega), decide_eq_true n1, decide_eq_true n9]
      refine ⟨_, rfl, iteF ?_⟩
      refine fun p hp => ?_
      have e2 := e1.trans (same_new (o := .dK []) hp)
      have u2 : upd H1 p (.dK []) p = some (.dK []) := upd_same
      generalize upd H1 p (.dK []) = H2 at e2 u2 ⊢
      refine ⟨_, rfl, x, dx, ws, rfl, .inr ⟨e2 _ _ hs.1, e2 _ _ hs.2⟩, x, dx, ys, ys, g, o, qs, rfl, hP.same e2, N, fun d1 H3 f1 e3 u3 => ?_⟩
      have e13 := e2.trans e3
      refine ⟨_, rfl, x, dx, ws, rfl, .inr ⟨e13 _ _ hs.1, e13 _ _ hs.2⟩, x, dx, ys, ys, g, o, qs, rfl, hP.same e13, N, fun d2 H4 f2 e4 u4 => ?_⟩
      have e14 := e13.trans e4
      refine ⟨_, rfl, x, dx, ws, rfl, .inr ⟨e14 _ _ hs.1, e14 _ _ hs.2⟩, x, dx, ys, ys, g, o, qs, rfl, hP.same e14, N, fun d3 H5 f3 e5 u5 => ?_⟩
      have e15 := e14.trans e5
      have n1p : d1 ≠ p := (ne_of_none u2 f1).symm
      have n2p : d2 ≠ p := (ne_of_none (e3 _ _ u2) f2).symm
      have n3p : d3 ≠ p := (ne_of_none (e4 _ _ (e3 _ _ u2)) f3).symm
      have n12 : d1 ≠ d2 := ne_of_none u3 f2
      have n13 : d1 ≠ d3 := ne_of_none (e4 _ _ u3) f3
      have n23 : d2 ≠ d3 := ne_of_none u4 f3
      have g1 : H d1 = none := e2.free f1
      have g2 : H d2 = none := e13.free f2
      have g3 : H d3 = none := e14.free f3
      have gp : H p = none := e1.free hp
      have v1 := e5 _ _ (e4 _ _ u3)
      have v2 := e5 _ _ u4
      have vp := e5 _ _ (e4 _ _ (e3 _ _ u2))
      refine ⟨upd H5 p (.dK [(.inr "put", .ref d1)]), .inl ⟨[], .inr "put", vp, rfl, by decide, by kernel_rfl⟩, upd (upd H5 p (.dK [(.inr "put", .ref d1)])) p (.dK [(.inr "put", .ref d1), (.inr "out", .ref d2)]), .inl ⟨_, .inr "out", upd_same, rfl, (show 1 < sizeLine by decide), by kernel_rfl⟩,
        upd (upd (upd H5 p (.dK [(.inr "put", .ref d1)])) p (.dK [(.inr "put", .ref d1), (.inr "out", .ref d2)])) p (.dK (tabs3 d1 d2 d3)), .inl ⟨_, .inr "swap", upd_same, rfl, (show 2 < sizeLine by decide), by kernel_rfl⟩, ?_⟩
      have up : ∀ b u, b ≠ p → H5 b = some u → upd (upd (upd H5 p (.dK [(.inr "put", .ref d1)])) p (.dK [(.inr "put", .ref d1), (.inr "out", .ref d2)])) p (.dK (tabs3 d1 d2 d3)) b = some u := fun b u n q => by rw [upd_ne n, upd_ne n, upd_ne n]; exact q
      have u6 : upd (upd (upd H5 p (.dK [(.inr "put", .ref d1)])) p (.dK [(.inr "put", .ref d1), (.inr "out", .ref d2)])) p (.dK (tabs3 d1 d2 d3)) p = some (.dK (tabs3 d1 d2 d3)) := upd_same
      generalize upd (upd (upd H5 p (.dK [(.inr "put", .ref d1)])) p (.dK [(.inr "put", .ref d1), (.inr "out", .ref d2)])) p (.dK (tabs3 d1 d2 d3)) = H6 at up u6 ⊢
      have e6 : Same H H6 := fun b u q => up b u (fun z => by rw [z, gp] at q; cases q) (e15 _ _ q)
      have a1 := up _ _ n1p v1
      have a2 := up _ _ n2p v2
      have a3 := up _ _ n3p u5
      clear up u2 u3 u4 u5 v1 v2 vp f1 f2 f3 e2 e3 e4 e5 e13 e14 e15 hp
      have ht6 := Same.seqT e6 ht
      have l5 := N.le
      have sz : 1000 < sizeLine := by decide
      refine ⟨_, rfl, _, rfl, iteF ⟨_, rfl, t, _, _, _, rfl, rfl, ht6, rfl, ?_⟩⟩
      refine ⟨_, rfl, rfl, _, rfl, iteDF (fun q => by cases q) ?_⟩
      refine ⟨_, rfl, _, rfl, _, rfl, t, _, _, _, rfl, rfl, ht6, rfl, p, .ref d1, rfl, .inl ⟨_, .inr "put", .inl u6, rfl, by kernel_rfl⟩, ?_⟩
      refine ⟨_, rfl, d1, _, rfl, .inl ⟨_, .inr z, a1, rfl, by simp only [dkF, List.length_map]; omega, rfl⟩, ?_⟩
      rw [dkF_set g hz]
      have e8 : Same H (upd H6 d1 (.dK (dkF ys (putG g z n)))) := fun b u q => by rw [upd_ne (fun z => by rw [z, g1] at q; cases q)]; exact e6 _ _ q
      have b1 : upd H6 d1 (.dK (dkF ys (putG g z n))) d1 = some (.dK (dkF ys (putG g z n))) := upd_same
      have b2 : upd H6 d1 (.dK (dkF ys (putG g z n))) d2 = some (.dK (dkF ys o)) := by rw [upd_ne n12.symm]; exact a2
      have b3 : upd H6 d1 (.dK (dkF ys (putG g z n))) d3 = some (.dT (dtF qs)) := by rw [upd_ne n13.symm]; exact a3
      have u8 : upd H6 d1 (.dK (dkF ys (putG g z n))) p = some (.dK (tabs3 d1 d2 d3)) := by rw [upd_ne n1p.symm]; exact u6
      generalize upd H6 d1 (.dK (dkF ys (putG g z n))) = H8 at e8 b1 b2 b3 u8 ⊢
      refine ⟨_, rfl, p, .ref d1, rfl, .inl ⟨_, .inr "put", .inl u8, rfl, by kernel_rfl⟩, ?_⟩
      refine ⟨_, rfl, p, .ref d2, rfl, .inl ⟨_, .inr "out", .inl u8, rfl, by kernel_rfl⟩, ?_⟩
      refine ⟨_, rfl, p, .ref d3, rfl, .inl ⟨_, .inr "swap", .inl u8, rfl, by kernel_rfl⟩, rfl, rfl, fun y dy hy hdy n => ?_⟩
      have nx : ∀ b u, H8 b = some u → b ≠ y ∧ b ≠ dy := fun b u e => ⟨ne_of_none e hy, ne_of_none e hdy⟩
      have up : ∀ b u, H8 b = some u → upd (upd H8 dy (.own y)) y (.ins Cp dy []) b = some u := fun b u e => by
        rw [upd_ne (nx b u e).1, upd_ne (nx b u e).2]; exact e
      refine ⟨y, dy, d1, d2, d3, ys, ys, _, _, _, rfl, upd_same, by rw [upd_ne n, upd_same], n, up _ _ b1, up _ _ b2, up _ _ b3, N.setG n1 n9, fun H9 ys' qs' k2 hP2 N2 pm' asc' pq' srt' => ⟨rfl, hQ y H9 (fun b u z => ?_) ⟨dy, ys', qs', hP2, N2, pm'.trans pm, asc', pq'.trans pq, srt'⟩⟩⟩
      exact k2 b u (nx _ _ (e8 _ _ z)).1 (nx _ _ (e8 _ _ z)).2 (up _ _ (e8 _ _ z))
    · obtain ⟨z, n, ht, rfl, hz0, n1, n9, hQ⟩ := q0
      have hz : z ∈ ys := pm.mem_iff.mpr hz0
      have kd : KindV K H t (dkF ys g) := .inl ⟨_, z, ht, .inr rfl, isSign_one (N.sg z hz), _, dkF_val N.nd g hz⟩
      refine ⟨_, rfl, _, rfl, x, Cp, dx, p1, ws, 1, _, rfl, .inr hs, SP.sc, s1, w1, t, PA, _, rfl, kd, hA, fun H1 e1 => ⟨_, rfl, iteF ?_⟩⟩
      have ht1 := Same.seqT e1 ht
      refine ⟨_, rfl, t, _, _, _, rfl, rfl, ht1, rfl, rfl, ?_⟩
      have es : decide (V.str "out" = V.str "swap") = false := by decide +kernel
      rw [es]
      refine ⟨_, rfl, _, rfl, _, rfl, ?_⟩
      refine iteF ?_
      refine ⟨_, _, rfl, .inl ⟨n, rfl, ?_⟩⟩
      rw [isInt_of (by omega) (by omega), decide_eq_true n1, decide_eq_true n9]
      refine ⟨_, rfl, iteF ?_⟩
      refine fun p hp => ?_
      have e2 := e1.trans (same_new (o := .dK []) hp)
      have u2 : upd H1 p (.dK []) p = some (.dK []) := upd_same
      generalize upd H1 p (.dK []) = H2 at e2 u2 ⊢
      refine ⟨_, rfl, x, dx, ws, rfl, .inr ⟨e2 _ _ hs.1, e2 _ _ hs.2⟩, x, dx, ys, ys, g, o, qs, rfl, hP.same e2, N, fun d1 H3 f1 e3 u3 => ?_⟩
      have e13 := e2.trans e3
      refine ⟨_, rfl, x, dx, ws, rfl, .inr ⟨e13 _ _ hs.1, e13 _ _ hs.2⟩, x, dx, ys, ys, g, o, qs, rfl, hP.same e13, N, fun d2 H4 f2 e4 u4 => ?_⟩
      have e14 := e13.trans e4
      refine ⟨_, rfl, x, dx, ws, rfl, .inr ⟨e14 _ _ hs.1, e14 _ _ hs.2⟩, x, dx, ys, ys, g, o, qs, rfl, hP.same e14, N, fun d3 H5 f3 e5 u5 => ?_⟩
      have e15 := e14.trans e5
      have n1p : d1 ≠ p := (ne_of_none u2 f1).symm
      have n2p : d2 ≠ p := (ne_of_none (e3 _ _ u2) f2).symm
      have n3p : d3 ≠ p := (ne_of_none (e4 _ _ (e3 _ _ u2)) f3).symm
      have n12 : d1 ≠ d2 := ne_of_none u3 f2
      have n13 : d1 ≠ d3 := ne_of_none (e4 _ _ u3) f3
      have n23 : d2 ≠ d3 := ne_of_none u4 f3
      have g1 : H d1 = none := e2.free f1
      have g2 : H d2 = none := e13.free f2
      have g3 : H d3 = none := e14.free f3
      have gp : H p = none := e1.free hp
      have v1 := e5 _ _ (e4 _ _ u3)
      have v2 := e5 _ _ u4
      have vp := e5 _ _ (e4 _ _ (e3 _ _ u2))
      refine ⟨upd H5 p (.dK [(.inr "put", .ref d1)]), .inl ⟨[], .inr "put", vp, rfl, by decide, by kernel_rfl⟩, upd (upd H5 p (.dK [(.inr "put", .ref d1)])) p (.dK [(.inr "put", .ref d1), (.inr "out", .ref d2)]), .inl ⟨_, .inr "out", upd_same, rfl, (show 1 < sizeLine by decide), by kernel_rfl⟩,
        upd (upd (upd H5 p (.dK [(.inr "put", .ref d1)])) p (.dK [(.inr "put", .ref d1), (.inr "out", .ref d2)])) p (.dK (tabs3 d1 d2 d3)), .inl ⟨_, .inr "swap", upd_same, rfl, (show 2 < sizeLine by decide), by kernel_rfl⟩, ?_⟩
      have up : ∀ b u, b ≠ p → H5 b = some u → upd (upd (upd H5 p (.dK [(.inr "put", .ref d1)])) p (.dK [(.inr "put", .ref d1), (.inr "out", .ref d2)])) p (.dK (tabs3 d1 d2 d3)) b = some u := fun b u n q => by rw [upd_ne n, upd_ne n, upd_ne n]; exact q
      have u6 : upd (upd (upd H5 p (.dK [(.inr "put", .ref d1)])) p (.dK [(.inr "put", .ref d1), (.inr "out", .ref d2)])) p (.dK (tabs3 d1 d2 d3)) p = some (.dK (tabs3 d1 d2 d3)) := upd_same
      generalize upd (upd (upd H5 p (.dK [(.inr "put", .ref d1)])) p (.dK [(.inr "put", .ref d1), (.inr "out", .ref d2)])) p (.dK (tabs3 d1 d2 d3)) = H6 at up u6 ⊢
      have e6 : Same H H6 := fun b u q => up b u (fun z => by rw [z, gp] at q; cases q) (e15 _ _ q)
      have a1 := up _ _ n1p v1
      have a2 := up _ _ n2p v2
      have a3 := up _ _ n3p u5
      clear up u2 u3 u4 u5 v1 v2 vp f1 f2 f3 e2 e3 e4 e5 e13 e14 e15 hp
      have ht6 := Same.seqT e6 ht
      have l5 := N.le
      have sz : 1000 < sizeLine := by decide
      refine ⟨_, rfl, _, rfl, iteF ⟨_, rfl, t, _, _, _, rfl, rfl, ht6, rfl, ?_⟩⟩
      refine ⟨_, rfl, rfl, _, rfl, iteDF (fun q => by cases q) ?_⟩
      refine ⟨_, rfl, _, rfl, _, rfl, t, _, _, _, rfl, rfl, ht6, rfl, p, .ref d2, rfl, .inl ⟨_, .inr "out", .inl u6, rfl, by kernel_rfl⟩, ?_⟩
      refine ⟨_, rfl, d2, _, rfl, .inl ⟨_, .inr z, a2, rfl, by simp only [dkF, List.length_map]; omega, rfl⟩, ?_⟩
      rw [dkF_set o hz]
      have e8 : Same H (upd H6 d2 (.dK (dkF ys (putG o z n)))) := fun b u q => by rw [upd_ne (fun z => by rw [z, g2] at q; cases q)]; exact e6 _ _ q
      have b1 : upd H6 d2 (.dK (dkF ys (putG o z n))) d1 = some (.dK (dkF ys g)) := by rw [upd_ne n12]; exact a1
      have b2 : upd H6 d2 (.dK (dkF ys (putG o z n))) d2 = some (.dK (dkF ys (putG o z n))) := upd_same
      have b3 : upd H6 d2 (.dK (dkF ys (putG o z n))) d3 = some (.dT (dtF qs)) := by rw [upd_ne n23.symm]; exact a3
      have u8 : upd H6 d2 (.dK (dkF ys (putG o z n))) p = some (.dK (tabs3 d1 d2 d3)) := by rw [upd_ne n2p.symm]; exact u6
      generalize upd H6 d2 (.dK (dkF ys (putG o z n))) = H8 at e8 b1 b2 b3 u8 ⊢
      refine ⟨_, rfl, p, .ref d1, rfl, .inl ⟨_, .inr "put", .inl u8, rfl, by kernel_rfl⟩, ?_⟩
      refine ⟨_, rfl, p, .ref d2, rfl, .inl ⟨_, .inr "out", .inl u8, rfl, by kernel_rfl⟩, ?_⟩
      refine ⟨_, rfl, p, .ref d3, rfl, .inl ⟨_, .inr "swap", .inl u8, rfl, by kernel_rfl⟩, rfl, rfl, fun y dy hy hdy n => ?_⟩
      have nx : ∀ b u, H8 b = some u → b ≠ y ∧ b ≠ dy := fun b u e => ⟨ne_of_none e hy, ne_of_none e hdy⟩
      have up : ∀ b u, H8 b = some u → upd (upd H8 dy (.own y)) y (.ins Cp dy []) b = some u := fun b u e => by
        rw [upd_ne (nx b u e).1, upd_ne (nx b u e).2]; exact e
      refine ⟨y, dy, d1, d2, d3, ys, ys, _, _, _, rfl, upd_same, by rw [upd_ne n, upd_same], n, up _ _ b1, up _ _ b2, up _ _ b3, N.setO n1 n9, fun H9 ys' qs' k2 hP2 N2 pm' asc' pq' srt' => ⟨rfl, hQ y H9 (fun b u z => ?_) ⟨dy, ys', qs', hP2, N2, pm'.trans pm, asc', pq'.trans pq, srt'⟩⟩⟩
      exact k2 b u (nx _ _ (e8 _ _ z)).1 (nx _ _ (e8 _ _ z)).2 (up _ _ (e8 _ _ z))
    · obtain ⟨a, b, n, ht, rfl, ha0, hb0, ne, n1, n9, hQ⟩ := q0
      have ha : a ∈ ys := pm.mem_iff.mpr ha0
      have hb : b ∈ ys := pm.mem_iff.mpr hb0
      have kd : KindV K H t (dkF ys g) := .inr ⟨a, b, ht, isSign_one (N.sg a ha), isSign_one (N.sg b hb), ⟨_, dkF_val N.nd g ha⟩, ⟨_, dkF_val N.nd g hb⟩, ne⟩
      refine ⟨_, rfl, _, rfl, x, Cp, dx, p1, ws, 1, _, rfl, .inr hs, SP.sc, s1, w1, t, PA, _, rfl, kd, hA, fun H1 e1 => ⟨_, rfl, iteF ?_⟩⟩
      have ht1 := Same.seqT e1 ht
      refine ⟨_, rfl, t, _, _, _, rfl, rfl, ht1, rfl, rfl, ?_⟩
      have es : decide (V.str "swap" = V.str "swap") = true := by decide +kernel
      rw [es]
      refine ⟨_, rfl, _, rfl, _, rfl, ?_⟩
      refine iteT ?_
      refine ⟨_, _, rfl, .inl ⟨n, rfl, ?_⟩⟩
      rw [isInt_of (by omega) (by omega), decide_eq_true n1, decide_eq_true n9]
      refine ⟨_, rfl, iteF ?_⟩
      refine fun p hp => ?_
      have e2 := e1.trans (same_new (o := .dK []) hp)
      have u2 : upd H1 p (.dK []) p = some (.dK []) := upd_same
      generalize upd H1 p (.dK []) = H2 at e2 u2 ⊢
      refine ⟨_, rfl, x, dx, ws, rfl, .inr ⟨e2 _ _ hs.1, e2 _ _ hs.2⟩, x, dx, ys, ys, g, o, qs, rfl, hP.same e2, N, fun d1 H3 f1 e3 u3 => ?_⟩
      have e13 := e2.trans e3
      refine ⟨_, rfl, x, dx, ws, rfl, .inr ⟨e13 _ _ hs.1, e13 _ _ hs.2⟩, x, dx, ys, ys, g, o, qs, rfl, hP.same e13, N, fun d2 H4 f2 e4 u4 => ?_⟩
      have e14 := e13.trans e4
      refine ⟨_, rfl, x, dx, ws, rfl, .inr ⟨e14 _ _ hs.1, e14 _ _ hs.2⟩, x, dx, ys, ys, g, o, qs, rfl, hP.same e14, N, fun d3 H5 f3 e5 u5 => ?_⟩
      have e15 := e14.trans e5
      have n1p : d1 ≠ p := (ne_of_none u2 f1).symm
      have n2p : d2 ≠ p := (ne_of_none (e3 _ _ u2) f2).symm
      have n3p : d3 ≠ p := (ne_of_none (e4 _ _ (e3 _ _ u2)) f3).symm
      have n12 : d1 ≠ d2 := ne_of_none u3 f2
      have n13 : d1 ≠ d3 := ne_of_none (e4 _ _ u3) f3
      have n23 : d2 ≠ d3 := ne_of_none u4 f3
      have g1 : H d1 = none := e2.free f1
      have g2 : H d2 = none := e13.free f2
      have g3 : H d3 = none := e14.free f3
      have gp : H p = none := e1.free hp
      have v1 := e5 _ _ (e4 _ _ u3)
      have v2 := e5 _ _ u4
      have vp := e5 _ _ (e4 _ _ (e3 _ _ u2))
      refine ⟨upd H5 p (.dK [(.inr "put", .ref d1)]), .inl ⟨[], .inr "put", vp, rfl, by decide, by kernel_rfl⟩, upd (upd H5 p (.dK [(.inr "put", .ref d1)])) p (.dK [(.inr "put", .ref d1), (.inr "out", .ref d2)]), .inl ⟨_, .inr "out", upd_same, rfl, (show 1 < sizeLine by decide), by kernel_rfl⟩,
        upd (upd (upd H5 p (.dK [(.inr "put", .ref d1)])) p (.dK [(.inr "put", .ref d1), (.inr "out", .ref d2)])) p (.dK (tabs3 d1 d2 d3)), .inl ⟨_, .inr "swap", upd_same, rfl, (show 2 < sizeLine by decide), by kernel_rfl⟩, ?_⟩
      have up : ∀ b u, b ≠ p → H5 b = some u → upd (upd (upd H5 p (.dK [(.inr "put", .ref d1)])) p (.dK [(.inr "put", .ref d1), (.inr "out", .ref d2)])) p (.dK (tabs3 d1 d2 d3)) b = some u := fun b u n q => by rw [upd_ne n, upd_ne n, upd_ne n]; exact q
      have u6 : upd (upd (upd H5 p (.dK [(.inr "put", .ref d1)])) p (.dK [(.inr "put", .ref d1), (.inr "out", .ref d2)])) p (.dK (tabs3 d1 d2 d3)) p = some (.dK (tabs3 d1 d2 d3)) := upd_same
      generalize upd (upd (upd H5 p (.dK [(.inr "put", .ref d1)])) p (.dK [(.inr "put", .ref d1), (.inr "out", .ref d2)])) p (.dK (tabs3 d1 d2 d3)) = H6 at up u6 ⊢
      have e6 : Same H H6 := fun b u q => up b u (fun z => by rw [z, gp] at q; cases q) (e15 _ _ q)
      have a1 := up _ _ n1p v1
      have a2 := up _ _ n2p v2
      have a3 := up _ _ n3p u5
      clear up u2 u3 u4 u5 v1 v2 vp f1 f2 f3 e2 e3 e4 e5 e13 e14 e15 hp
      have ht6 := Same.seqT e6 ht
      have l5 := N.le
      have sz : 1000 < sizeLine := by decide
      refine ⟨_, rfl, _, rfl, iteT ⟨_, rfl, _, rfl, t, _, rfl, ht6, (fun q => absurd (show HT.sIx 3 0 (some 1) = 0 from q.1) (by decide)), fun q hq => ?_⟩⟩
      have e7 := same_new (o := .tup (cutV [.str "swap", .str a, .str b] (some 1) none)) hq
      have u7 : upd H6 q (.tup (cutV [.str "swap", .str a, .str b] (some 1) none)) q = some (.tup [.str a, .str b]) := upd_same
      generalize upd H6 q (.tup (cutV [.str "swap", .str a, .str b] (some 1) none)) = H7 at e7 u7 ⊢
      have hq0 : H q = none := e6.free hq
      replace e6 := e6.trans e7
      replace u6 := e7 _ _ u6
      replace a1 := e7 _ _ a1
      replace a2 := e7 _ _ a2
      replace a3 := e7 _ _ a3
      clear e7 hq
      refine ⟨_, rfl, rfl, _, rfl, iteDF (fun q => by cases q) ?_⟩
      refine ⟨_, rfl, _, rfl, _, rfl, t, _, _, _, rfl, rfl, Same.seqT e6 ht, rfl, p, .ref d3, rfl, .inl ⟨_, .inr "swap", .inl u6, rfl, by kernel_rfl⟩, ?_⟩
      have l100 := N.sl
      refine ⟨_, rfl, d3, _, rfl, .inr ⟨_, [.inr a, .inr b], q, a3, rfl, u7, by simp only [dtF, List.length_map]; omega, rfl⟩, ?_⟩
      rw [dtF_set]
      have e8 : Same H (upd H7 d3 (.dT (dtF (putP qs (a, b) n)))) := fun b u q => by rw [upd_ne (fun z => by rw [z, g3] at q; cases q)]; exact e6 _ _ q
      have b1 : upd H7 d3 (.dT (dtF (putP qs (a, b) n))) d1 = some (.dK (dkF ys g)) := by rw [upd_ne n13]; exact a1
      have b2 : upd H7 d3 (.dT (dtF (putP qs (a, b) n))) d2 = some (.dK (dkF ys o)) := by rw [upd_ne n23]; exact a2
      have b3 : upd H7 d3 (.dT (dtF (putP qs (a, b) n))) d3 = some (.dT (dtF (putP qs (a, b) n))) := upd_same
      have u8 : upd H7 d3 (.dT (dtF (putP qs (a, b) n))) p = some (.dK (tabs3 d1 d2 d3)) := by rw [upd_ne n3p.symm]; exact u6
      generalize upd H7 d3 (.dT (dtF (putP qs (a, b) n))) = H8 at e8 b1 b2 b3 u8 ⊢
      refine ⟨_, rfl, p, .ref d1, rfl, .inl ⟨_, .inr "put", .inl u8, rfl, by kernel_rfl⟩, ?_⟩
      refine ⟨_, rfl, p, .ref d2, rfl, .inl ⟨_, .inr "out", .inl u8, rfl, by kernel_rfl⟩, ?_⟩
      refine ⟨_, rfl, p, .ref d3, rfl, .inl ⟨_, .inr "swap", .inl u8, rfl, by kernel_rfl⟩, rfl, rfl, fun y dy hy hdy n => ?_⟩
      have nx : ∀ b u, H8 b = some u → b ≠ y ∧ b ≠ dy := fun b u e => ⟨ne_of_none e hy, ne_of_none e hdy⟩
      have up : ∀ b u, H8 b = some u → upd (upd H8 dy (.own y)) y (.ins Cp dy []) b = some u := fun b u e => by
        rw [upd_ne (nx b u e).1, upd_ne (nx b u e).2]; exact e
      refine ⟨y, dy, d1, d2, d3, ys, ys, _, _, _, rfl, upd_same, by rw [upd_ne n, upd_same], n, up _ _ b1, up _ _ b2, up _ _ b3, N.setP ha hb ne n1 n9, fun H9 ys' qs' k2 hP2 N2 pm' asc' pq' srt' => ⟨rfl, hQ y H9 (fun b u z => ?_) ⟨dy, ys', qs', hP2, N2, pm'.trans pm, asc', pq'.trans (putP_perm pq _ _), srt'⟩⟩⟩
      exact k2 b u (nx _ _ (e8 _ _ z)).1 (nx _ _ (e8 _ _ z)).2 (up _ _ (e8 _ _ z))
    · obtain ⟨a, b, ht, rfl, ha0, hb0, ne, hQ⟩ := q0
      have ha : a ∈ ys := pm.mem_iff.mpr ha0
      have hb : b ∈ ys := pm.mem_iff.mpr hb0
      have kd : KindV K H t (dkF ys g) := .inr ⟨a, b, ht, isSign_one (N.sg a ha), isSign_one (N.sg b hb), ⟨_, dkF_val N.nd g ha⟩, ⟨_, dkF_val N.nd g hb⟩, ne⟩
      refine ⟨_, rfl, _, rfl, x, Cp, dx, p1, ws, 1, _, rfl, .inr hs, SP.sc, s1, w1, t, PA, _, rfl, kd, hA, fun H1 e1 => ⟨_, rfl, iteF ?_⟩⟩
      have ht1 := Same.seqT e1 ht
      refine ⟨_, rfl, t, _, _, _, rfl, rfl, ht1, rfl, rfl, ?_⟩
      have es : decide (V.str "swap" = V.str "swap") = true := by decide +kernel
      rw [es]
      refine ⟨_, rfl, _, rfl, _, rfl, ?_⟩
      refine iteT ?_
      refine ⟨_, _, rfl, .inr (.inr ⟨.inl ⟨.type "NoneType", .base .non, kit_ty (by decide +kernel)⟩, ?_⟩)⟩
      refine ⟨_, rfl, iteT ⟨_, rfl, _, rfl, iteT ⟨_, rfl, rfl, _, rfl, iteF ?_⟩⟩⟩
      refine fun p hp => ?_
      have e2 := e1.trans (same_new (o := .dK []) hp)
      have u2 : upd H1 p (.dK []) p = some (.dK []) := upd_same
      generalize upd H1 p (.dK []) = H2 at e2 u2 ⊢
      refine ⟨_, rfl, x, dx, ws, rfl, .inr ⟨e2 _ _ hs.1, e2 _ _ hs.2⟩, x, dx, ys, ys, g, o, qs, rfl, hP.same e2, N, fun d1 H3 f1 e3 u3 => ?_⟩
      have e13 := e2.trans e3
      refine ⟨_, rfl, x, dx, ws, rfl, .inr ⟨e13 _ _ hs.1, e13 _ _ hs.2⟩, x, dx, ys, ys, g, o, qs, rfl, hP.same e13, N, fun d2 H4 f2 e4 u4 => ?_⟩
      have e14 := e13.trans e4
      refine ⟨_, rfl, x, dx, ws, rfl, .inr ⟨e14 _ _ hs.1, e14 _ _ hs.2⟩, x, dx, ys, ys, g, o, qs, rfl, hP.same e14, N, fun d3 H5 f3 e5 u5 => ?_⟩
      have e15 := e14.trans e5
      have n1p : d1 ≠ p := (ne_of_none u2 f1).symm
      have n2p : d2 ≠ p := (ne_of_none (e3 _ _ u2) f2).symm
      have n3p : d3 ≠ p := (ne_of_none (e4 _ _ (e3 _ _ u2)) f3).symm
      have n12 : d1 ≠ d2 := ne_of_none u3 f2
      have n13 : d1 ≠ d3 := ne_of_none (e4 _ _ u3) f3
      have n23 : d2 ≠ d3 := ne_of_none u4 f3
      have g1 : H d1 = none := e2.free f1
      have g2 : H d2 = none := e13.free f2
      have g3 : H d3 = none := e14.free f3
      have gp : H p = none := e1.free hp
      have v1 := e5 _ _ (e4 _ _ u3)
      have v2 := e5 _ _ u4
      have vp := e5 _ _ (e4 _ _ (e3 _ _ u2))
      refine ⟨upd H5 p (.dK [(.inr "put", .ref d1)]), .inl ⟨[], .inr "put", vp, rfl, by decide, by kernel_rfl⟩, upd (upd H5 p (.dK [(.inr "put", .ref d1)])) p (.dK [(.inr "put", .ref d1), (.inr "out", .ref d2)]), .inl ⟨_, .inr "out", upd_same, rfl, (show 1 < sizeLine by decide), by kernel_rfl⟩,
        upd (upd (upd H5 p (.dK [(.inr "put", .ref d1)])) p (.dK [(.inr "put", .ref d1), (.inr "out", .ref d2)])) p (.dK (tabs3 d1 d2 d3)), .inl ⟨_, .inr "swap", upd_same, rfl, (show 2 < sizeLine by decide), by kernel_rfl⟩, ?_⟩
      have up : ∀ b u, b ≠ p → H5 b = some u → upd (upd (upd H5 p (.dK [(.inr "put", .ref d1)])) p (.dK [(.inr "put", .ref d1), (.inr "out", .ref d2)])) p (.dK (tabs3 d1 d2 d3)) b = some u := fun b u n q => by rw [upd_ne n, upd_ne n, upd_ne n]; exact q
      have u6 : upd (upd (upd H5 p (.dK [(.inr "put", .ref d1)])) p (.dK [(.inr "put", .ref d1), (.inr "out", .ref d2)])) p (.dK (tabs3 d1 d2 d3)) p = some (.dK (tabs3 d1 d2 d3)) := upd_same
      generalize upd (upd (upd H5 p (.dK [(.inr "put", .ref d1)])) p (.dK [(.inr "put", .ref d1), (.inr "out", .ref d2)])) p (.dK (tabs3 d1 d2 d3)) = H6 at up u6 ⊢
      have e6 : Same H H6 := fun b u q => up b u (fun z => by rw [z, gp] at q; cases q) (e15 _ _ q)
      have a1 := up _ _ n1p v1
      have a2 := up _ _ n2p v2
      have a3 := up _ _ n3p u5
      clear up u2 u3 u4 u5 v1 v2 vp f1 f2 f3 e2 e3 e4 e5 e13 e14 e15 hp
      have ht6 := Same.seqT e6 ht
      have l5 := N.le
      have sz : 1000 < sizeLine := by decide
      refine ⟨_, rfl, _, rfl, iteT ⟨_, rfl, _, rfl, t, _, rfl, ht6, (fun q => absurd (show HT.sIx 3 0 (some 1) = 0 from q.1) (by decide)), fun q hq => ?_⟩⟩
      have e7 := same_new (o := .tup (cutV [.str "swap", .str a, .str b] (some 1) none)) hq
      have u7 : upd H6 q (.tup (cutV [.str "swap", .str a, .str b] (some 1) none)) q = some (.tup [.str a, .str b]) := upd_same
      generalize upd H6 q (.tup (cutV [.str "swap", .str a, .str b] (some 1) none)) = H7 at e7 u7 ⊢
      have hq0 : H q = none := e6.free hq
      replace e6 := e6.trans e7
      replace u6 := e7 _ _ u6
      replace a1 := e7 _ _ a1
      replace a2 := e7 _ _ a2
      replace a3 := e7 _ _ a3
      clear e7 hq
      refine ⟨_, rfl, rfl, _, rfl, iteDT rfl ?_⟩
      refine ⟨_, rfl, p, .ref d3, rfl, .inl ⟨_, .inr "swap", .inl u6, rfl, by kernel_rfl⟩, d3, rfl, .inr ⟨_, .inl a3⟩, _, rfl, _, [.inr a, .inr b], q, a3, rfl, u7, fun v hv => ?_, fun hv => ?_⟩
      · rw [dtF_drop]
        have e8 : Same H (upd H7 d3 (.dT (dtF (dropP qs (a, b))))) := fun b u q => by rw [upd_ne (fun z => by rw [z, g3] at q; cases q)]; exact e6 _ _ q
        have b1 : upd H7 d3 (.dT (dtF (dropP qs (a, b)))) d1 = some (.dK (dkF ys g)) := by rw [upd_ne n13]; exact a1
        have b2 : upd H7 d3 (.dT (dtF (dropP qs (a, b)))) d2 = some (.dK (dkF ys o)) := by rw [upd_ne n23]; exact a2
        have b3 : upd H7 d3 (.dT (dtF (dropP qs (a, b)))) d3 = some (.dT (dtF (dropP qs (a, b)))) := upd_same
        have u8 : upd H7 d3 (.dT (dtF (dropP qs (a, b)))) p = some (.dK (tabs3 d1 d2 d3)) := by rw [upd_ne n3p.symm]; exact u6
        generalize upd H7 d3 (.dT (dtF (dropP qs (a, b)))) = H8 at e8 b1 b2 b3 u8 ⊢
        refine ⟨_, rfl, p, .ref d1, rfl, .inl ⟨_, .inr "put", .inl u8, rfl, by kernel_rfl⟩, ?_⟩
        refine ⟨_, rfl, p, .ref d2, rfl, .inl ⟨_, .inr "out", .inl u8, rfl, by kernel_rfl⟩, ?_⟩
        refine ⟨_, rfl, p, .ref d3, rfl, .inl ⟨_, .inr "swap", .inl u8, rfl, by kernel_rfl⟩, rfl, rfl, fun y dy hy hdy n => ?_⟩
        have nx : ∀ b u, H8 b = some u → b ≠ y ∧ b ≠ dy := fun b u e => ⟨ne_of_none e hy, ne_of_none e hdy⟩
        have up : ∀ b u, H8 b = some u → upd (upd H8 dy (.own y)) y (.ins Cp dy []) b = some u := fun b u e => by
          rw [upd_ne (nx b u e).1, upd_ne (nx b u e).2]; exact e
        refine ⟨y, dy, d1, d2, d3, ys, ys, _, _, _, rfl, upd_same, by rw [upd_ne n, upd_same], n, up _ _ b1, up _ _ b2, up _ _ b3, N.filtP _, fun H9 ys' qs' k2 hP2 N2 pm' asc' pq' srt' => ⟨rfl, hQ y H9 (fun b u z => ?_) ⟨dy, ys', qs', hP2, N2, pm'.trans pm, asc', pq'.trans (pq.filter _), srt'⟩⟩⟩
        exact k2 b u (nx _ _ (e8 _ _ z)).1 (nx _ _ (e8 _ _ z)).2 (up _ _ (e8 _ _ z))
      · have nk : (a, b) ∉ qs.map Prod.fst := fun q => by
          obtain ⟨e, he, ee⟩ := List.mem_map.mp q
          rw [dtF_val (x := a) (y := b) (p := e.2) N.sn (by rw [← ee]; exact he)] at hv
          cases hv
        rw [← dropP_no nk] at a3
        have e8 := e6
        have b1 := a1
        have b2 := a2
        have b3 := a3
        have u8 := u6
        clear e6 a1 a2 a3 u6
        generalize H7 = H8 at e8 b1 b2 b3 u8 ⊢
        refine ⟨_, rfl, p, .ref d1, rfl, .inl ⟨_, .inr "put", .inl u8, rfl, by kernel_rfl⟩, ?_⟩
        refine ⟨_, rfl, p, .ref d2, rfl, .inl ⟨_, .inr "out", .inl u8, rfl, by kernel_rfl⟩, ?_⟩
        refine ⟨_, rfl, p, .ref d3, rfl, .inl ⟨_, .inr "swap", .inl u8, rfl, by kernel_rfl⟩, rfl, rfl, fun y dy hy hdy n => ?_⟩
        have nx : ∀ b u, H8 b = some u → b ≠ y ∧ b ≠ dy := fun b u e => ⟨ne_of_none e hy, ne_of_none e hdy⟩
        have up : ∀ b u, H8 b = some u → upd (upd H8 dy (.own y)) y (.ins Cp dy []) b = some u := fun b u e => by
          rw [upd_ne (nx b u e).1, upd_ne (nx b u e).2]; exact e
        refine ⟨y, dy, d1, d2, d3, ys, ys, _, _, _, rfl, upd_same, by rw [upd_ne n, upd_same], n, up _ _ b1, up _ _ b2, up _ _ b3, N.filtP _, fun H9 ys' qs' k2 hP2 N2 pm' asc' pq' srt' => ⟨rfl, hQ y H9 (fun b u z => ?_) ⟨dy, ys', qs', hP2, N2, pm'.trans pm, asc', pq'.trans (pq.filter _), srt'⟩⟩⟩
        exact k2 b u (nx _ _ (e8 _ _ z)).1 (nx _ _ (e8 _ _ z)).2 (up _ _ (e8 _ _ z))
end
end MN
/-! Prices.times: let, or InvalidOperation -/
namespace MN
open PySem PySem.Spec PyProof.Rows L2
/-- the class InvalidOperation -/
structure ErrC (K : PySem.W.Frag) (mg : Str → Option Value) (IO : Addr) : Prop where
  g : mg "InvalidOperation" = some (.ref IO)
  x : PySem.W.excIn K IO He.veBase "ValueError.__new__" = true
  k : PySem.W.keepIn K (.ref IO) = true
  b : PySem.W.subIn K (.ref IO) (.type "BaseException") = some true
  t : PySem.W.typeIn K (.ref IO) = some (.type "type")
  e : PySem.W.exmOne K (.ref IO) (.ref IO) = some true
theorem all_perm' {α : Type} {l m : List α} (h : l.Perm m) (f : α → Bool) : l.all f = m.all f := by
  cases e : m.all f with
  | true => exact List.all_eq_true.mpr fun x hx => List.all_eq_true.mp e x (h.mem_iff.mp hx)
  | false =>
    refine Bool.eq_false_iff.mpr fun q => ?_
    rw [← Bool.not_eq_true] at e
    exact e (List.all_eq_true.mpr fun x hx => List.all_eq_true.mp q x (h.mem_iff.mpr hx))
theorem fitsP_perm {ys ys2 zs zs2 : List Str} (g o : Str → Int) {qs ps : List SP2} (h1 : ys.Perm zs) (h2 : ys2.Perm zs2) (h3 : qs.Perm ps) : fitsP ys ys2 g o qs = fitsP zs zs2 g o ps := by
  unfold fitsP
  rw [all_perm' ((h1.map g).append (h2.map o)), all_perm' h3]
theorem PrN.timeM {zs zs2 : List Str} {g o : Str → Int} {ps : List SP2} (N : PrN zs zs2 g o ps) {m : Int} (m1 : 1 ≤ m) : PrM zs zs2 (fun z => g z * m) (fun z => o z * m) (timeP m ps) := by
  have up : ∀ n : Int, 1 ≤ n → 1 ≤ n * m := fun n h => by
    have := Int.mul_le_mul h m1 (by decide) (by omega)
    omega
  refine ⟨N.sg, N.nd, N.pos, N.le, N.pm, fun z h => up _ (N.pg z h).1, fun z h => up _ (N.po z h).1, by rw [timeP_keys]; exact N.sn, fun x hx => ?_, by unfold timeP; rw [List.length_map]; exact N.sl⟩
  unfold timeP at hx
  obtain ⟨e, he, rfl⟩ := List.mem_map.mp hx
  obtain ⟨a, b, c, d, _⟩ := N.sp e he
  exact ⟨a, b, c, up _ d⟩
theorem PrM.fits {zs zs2 : List Str} {g o : Str → Int} {ps : List SP2} (M : PrM zs zs2 g o ps) (h : fitsP zs zs2 g o ps = true) : PrN zs zs2 g o ps := by
  unfold fitsP at h
  rw [Bool.and_eq_true, List.all_eq_true, List.all_eq_true] at h
  obtain ⟨h1, h2⟩ := h
  refine ⟨M.sg, M.nd, M.pos, M.le, M.pm, fun z hz => ⟨M.pg z hz, of_decide_eq_true (h1 _ (List.mem_append_left _ (List.mem_map.mpr ⟨z, hz, rfl⟩)))⟩, fun z hz => ⟨M.po z hz, of_decide_eq_true (h1 _ (List.mem_append_right _ (List.mem_map.mpr ⟨z, M.pm.mem_iff.mpr hz, rfl⟩)))⟩, M.sn, fun x hx => ?_, M.sl⟩
  obtain ⟨a, b, c, d⟩ := M.sp x hx
  exact ⟨a, b, c, d, of_decide_eq_true (h2 x hx)⟩
section
variable {P : Program} {w : World} {K : PySem.W.Frag} {mg : Str → Option Value} {base : Heap} {Cp IO : Addr}
def spTim02 (Cp IO : Addr) : Sp := fun vs H Q E => ∃ x m zs g o ps, vs = [.ref x, .int m] ∧ PrS Cp H x zs g o ps ∧ 1 ≤ m ∧ m < big ∧
  (fitsP zs zs (fun z => g z * m) (fun z => o z * m) (timeP m ps) = true → ∀ y H', Same H H' → PrS Cp H' y zs (fun z => g z * m) (fun z => o z * m) (timeP m ps) → Q (.ref y) H') ∧
  (fitsP zs zs (fun z => g z * m) (fun z => o z * m) (timeP m ps) = false → ∀ H', Same H H' → E (.ref IO) none H')
abbrev N_ptim : List Str := ["self", "many", "tables", "key", "price", "table"]
theorem sc_ptim : FnScope N_ptim ["self", "many"] (defScope (inClass (top 25) 13)) := ⟨rfl, rfl, rfl, by decide +kernel, rfl, by decide +kernel, by decide +kernel⟩
abbrev scT2 : Scope := { kind := .function, names := [(".0", .local), ("table", .local), ("many", .cell)], isGenerator := false, isCoroutine := false }
theorem f_ptim {f : Addr} {fd : FuncData} (PD : PrD K mg Cp) (ER : ErrC K mg IO) (F : FunAt K "times" "Prices.times" (inClass (top 25) 13) [] f fd) (B : Blt mg) (GG : GlC mg "GREATEST" (.int big)) (c_are_prices3 : Cal P w K mg base 3 "are_prices" spAreP3) (c_are_prices2 : Cal P w K mg base 3 "are_prices" spAreP2) (c_require_number : Cal P w K mg base 2 "require_number" spReqNumber) : FnOk P w K mg base (L2.CX P w) 6 f fd ["self", "many"] (spTim02 Cp IO) := by
  have SP := PD.sp
  obtain ⟨fi, fdi, M, Fi⟩ := PD.ip
  refine F.ok sc_ptim (fun vs H Q E h => ?_) (fun cdv A outer s H vs Q E hr h => ?_)
  · obtain ⟨_, _, _, _, _, _, rfl, _⟩ := h; rfl
  · obtain ⟨x, m, zs, g, o, ps, rfl, ⟨dx, ys, qs, hP, N, pm, asc, pq, srt⟩, m1, m9, hQ, hE⟩ := h
    rw [← fitsP_perm (fun z => g z * m) (fun z => o z * m) pm pm (show (timeP m qs).Perm (timeP m ps) from pq.map _)] at hQ hE
    obtain ⟨p0, s0⟩ := SP.s0
    obtain ⟨p1, s1⟩ := SP.s1
    obtain ⟨p2, s2⟩ := SP.s2
    refine ⟨_, pss_cons (ps_expr (pe_c c_require_number hr (by decide) (by rfl) (pa_cons (pv 1) (pa_cons pe_int (pa_cons (pe_gl (by rfl) GG) pa_nil)))))
      (pss_cons (ps_setLc (i := 2) (own := [("table", 5)]) (g := gName 5) (tt := tYes) (by rfl) sc_ptim.nd rfl rfl (sw_true rfl rfl rfl (by decide +kernel)) (pi_tup (pe_tup (pa_cons (SlX.pe_sl (pv 0)) (pa_cons (SlX.pe_sl (pv 0)) (pa_cons (SlX.pe_sl (pv 0)) pa_nil))))) (blkOk_by (own := [("table", 5)]) (N := N_ptim) (sc := defScope (inClass (top 25) 13)) (by decide +kernel)) (fun _ _ _ _ _ => (pg_name (i := 5) sc_ptim.nd rfl (Or.inl rfl))) (fun _ _ _ _ _ => pts_nil)
        (fun _ _ _ _ _ => pe_or2
          (pe_lock (pe_dp1 (own := [("key", 3), ("price", 4)]) (o0 := .dK []) (g := gTup K 2 (gCons (gName 3) (gCons (gName 4) gNil))) (tt := tYes) rfl (hu_of hr) sc_ptim.nd (pi_items (pv 5)) (blkOk_by (own := [("key", 3), ("price", 4)]) (N := N_ptim) (sc := scT2) (by decide +kernel)) (fun _ _ _ _ _ => (pg_tupK (K := K) (n := 2) rfl rfl (pgs_cons (pg_name (i := 3) sc_ptim.nd rfl (Or.inl rfl)) (pgs_cons (pg_name (i := 4) sc_ptim.nd rfl (Or.inl rfl)) pgs_nil)))) (fun _ _ _ _ _ => pts_nil) (fun _ _ _ _ _ => pv 3) (fun _ _ _ _ _ => pe_op op_mul (pv 4) (pv 1)) (.inl rfl)))
          (pe_lock (pe_dp1 (own := [("key", 3), ("price", 4)]) (o0 := .dT []) (g := gTup K 2 (gCons (gName 3) (gCons (gName 4) gNil))) (tt := tYes) rfl (hu_of hr) sc_ptim.nd (pi_itemsT (pv 5)) (blkOk_by (own := [("key", 3), ("price", 4)]) (N := N_ptim) (sc := scT2) (by decide +kernel)) (fun _ _ _ _ _ => (pg_tupK (K := K) (n := 2) rfl rfl (pgs_cons (pg_name (i := 3) sc_ptim.nd rfl (Or.inl rfl)) (pgs_cons (pg_name (i := 4) sc_ptim.nd rfl (Or.inl rfl)) pgs_nil)))) (fun _ _ _ _ _ => pts_nil) (fun _ _ _ _ _ => pv 3) (fun _ _ _ _ _ => pe_op op_mul (pv 4) (pv 1)) (.inr rfl)))))
      (pss_cons (ps_if (pt_not (pt_val (pe_c c_are_prices3 hr (by decide) (by rfl) (pa_cons (pe_ix ix_list (pv 2) pe_int (fun _ _ => rfl)) (pa_cons (pe_ix ix_list (pv 2) pe_int (fun _ _ => rfl)) (pa_cons (pe_ix ix_list (pv 2) pe_int (fun _ _ => rfl)) pa_nil)))))) (pss_one (ps_raise rfl (takes_of rfl rfl rfl rfl) (pmk_own PySem.F.excBase_ValueError ER.x ER.g ER.k (raises_own ER.b ER.t) (by rfl)))) pss_nil)
      (pss_one (ps_ret (pe_makeKG M (f_pinit3 (P := P) (w := w) (mg := mg) (base := base) SP Fi B c_are_prices2) (hr.mono (by decide)) (by rfl) PD.gp (kb_pinit Fi) pass0 (pk_cons (pe_ix ix_list (pv 2) pe_int (fun _ _ => rfl)) (pk_cons (pe_ix ix_list (pv 2) pe_int (fun _ _ => rfl)) (pk_cons (pe_ix ix_list (pv 2) pe_int (fun _ _ => rfl)) pk_nil)))))))), ?_⟩
    obtain ⟨PA, PB, PS, ws, hs, w1, w0, w2, nAB, hA, hB, hS⟩ := hP
    have im : isInt m = true := by unfold isInt; rw [decide_eq_true m9, decide_eq_true (show -big < m from Int.lt_of_lt_of_le (by decide) m1)]; rfl
    refine ⟨_, rfl, m, 1, big, rfl, im, m1, Int.le_of_lt m9, ?_⟩
    refine ⟨_, rfl, x, Cp, dx, p1, ws, 1, _, rfl, .inr hs, SP.sc, s1, w1, _, rfl, x, Cp, dx, p0, ws, 0, _, rfl, .inr hs, SP.sc, s0, w0, _, rfl, x, Cp, dx, p2, ws, 2, _, rfl, .inr hs, SP.sc, s2, w2, (by show 3 ≤ sizeLine; decide), fun T hT => ?_⟩
    have sT := same_new (o := .tup [.ref PA, .ref PB, .ref PS]) hT
    have uT : SqT K (upd H T (.tup [.ref PA, .ref PB, .ref PS])) T [.ref PA, .ref PB, .ref PS] := .inl (.inl upd_same)
    refine ⟨T, rfl, ⟨_, uT⟩, fun D hD => ?_⟩
    generalize upd H T (.tup [.ref PA, .ref PB, .ref PS]) = H1 at sT uT hD ⊢
    refine lc_newF walk_tup [.ref PA, .ref PB, .ref PS] rfl (by show 3 ≤ 1000; decide) (fun _ _ _ _ _ y => y) hD (fun H' e => Same.seqT e uT) (fun _ _ => by kernel_rfl) (fun k v H' => (k = 0 → H' v = some (.dK (dkF ys fun z => g z * m))) ∧ (k = 1 → H' v = some (.dK (dkF ys fun z => o z * m))) ∧ (k = 2 → H' v = some (.dT (dtF (timeP m qs)))) ∧ ∃ u, H' v = some u)
      (fun k v _ _ up n r => ⟨fun e => up _ _ n (r.1 e), fun e => up _ _ n (r.2.1 e), fun e => up _ _ n (r.2.2.1 e), r.2.2.2.elim fun u h => ⟨u, up _ _ n h⟩⟩) (fun _ _ _ r => r.2.2.2) (fun i y hy H2 e2 _ Q' q' => ?_) (fun H2 qs' e2 u2 nq nD lq r2 => ?_)
    · have back : ∀ {d D2 : Addr} {u u' : HO} {od : Obj} {H3 : Hp}, H2 d = some u → upd H2 d (.frz od u) D2 = none → Same (upd H2 d (.frz od u)) H3 → H3 D2 = some u' → H2 D2 = none ∧ Same H2 (upd H3 d u) ∧ (upd H3 d u) D2 = some u' := fun {d D2 u u' od H3} hd hD2 e3 u3 => by
        have n : D2 ≠ d := fun z => by rw [z, upd_same] at hD2; cases hD2
        rw [upd_ne n] at hD2
        refine ⟨hD2, fun b v hb => ?_, by rw [upd_ne n]; exact u3⟩
        by_cases z : b = d
        · subst z; rw [upd_same]; rw [hd] at hb; exact hb
        · rw [upd_ne z]; exact e3 _ _ (by rw [upd_ne z]; exact hb)
      match i, hy with
      | 0, hy =>
        cases hy
        have hA2 := e2 _ _ (sT _ _ hA)
        refine .inl ⟨PA, _, hA2, trivial, fun od => ⟨_, rfl, PA, od, _, rfl, upd_same, fun D2 hD2 => ?_⟩⟩
        refine dp_itemsK (fun n => n * m) upd_same N.nd (Nat.le_trans N.le (by decide)) hD2 (fun _ _ => by kernel_rfl) (fun z hz H3 e3 Q3 q3 => ⟨_, rfl, q3⟩) (fun z hz H3 e3 Q3 q3 => ⟨_, rfl, _, rfl, _, _, rfl, rfl, .inl ⟨by have := N.pg z hz; omega, by have := N.pg z hz; omega⟩, q3 _ (Same.refl _)⟩) (fun H3 e3 u3 => ?_)
        obtain ⟨b1, b2, b3⟩ := back hA2 hD2 e3 u3
        exact ⟨e3 _ _ upd_same, q' D2 _ b1 b2 ⟨fun _ => b3, fun e => absurd e (by decide), fun e => absurd e (by decide), _, b3⟩⟩
      | 1, hy =>
        cases hy
        have hA2 := e2 _ _ (sT _ _ hB)
        refine .inl ⟨PB, _, hA2, trivial, fun od => ⟨_, rfl, PB, od, _, rfl, upd_same, fun D2 hD2 => ?_⟩⟩
        refine dp_itemsK (fun n => n * m) upd_same (N.pm.nodup_iff.mpr N.nd) (by rw [N.pm.length_eq]; exact Nat.le_trans N.le (by decide)) hD2 (fun _ _ => by kernel_rfl) (fun z hz H3 e3 Q3 q3 => ⟨_, rfl, q3⟩) (fun z hz H3 e3 Q3 q3 => ⟨_, rfl, _, rfl, _, _, rfl, rfl, .inl ⟨by have := N.po z (N.pm.mem_iff.mp hz); omega, by have := N.po z (N.pm.mem_iff.mp hz); omega⟩, q3 _ (Same.refl _)⟩) (fun H3 e3 u3 => ?_)
        obtain ⟨b1, b2, b3⟩ := back hA2 hD2 e3 u3
        exact ⟨e3 _ _ upd_same, q' D2 _ b1 b2 ⟨fun e => absurd e (by decide), fun _ => b3, fun e => absurd e (by decide), _, b3⟩⟩
      | 2, hy =>
        cases hy
        have hA2 := e2 _ _ (sT _ _ hS)
        refine .inr ⟨PS, _, hA2, trivial, fun od => ⟨_, rfl, PS, od, _, rfl, upd_same, fun D2 hD2 => ?_⟩⟩
        refine dp_itemsT (fun n => n * m) upd_same N.sn (Nat.le_trans N.sl (by decide)) hD2 (fun _ _ => by kernel_rfl) (fun z hz q H3 e3 Q3 q3 => ⟨_, rfl, q3⟩) (fun z hz q H3 e3 Q3 q3 => ⟨_, rfl, _, rfl, _, _, rfl, rfl, .inl ⟨by have := N.sp z hz; omega, by have := N.sp z hz; omega⟩, q3 _ (Same.refl _)⟩) (fun H3 e3 u3 => ?_)
        obtain ⟨b1, b2, b3⟩ := back hA2 hD2 e3 u3
        exact ⟨e3 _ _ upd_same, q' D2 _ b1 b2 ⟨fun e => absurd e (by decide), fun e => absurd e (by decide), fun _ => b3, _, b3⟩⟩
      | i + 3, hy => cases hy
    · match qs', lq with
      | [q0, q1, q2], _ =>
        have h0 := (r2 0 q0 rfl).1 rfl
        have h1 := (r2 1 q1 rfl).2.1 rfl
        have h2 := (r2 2 q2 rfl).2.2.1 rfl
        have hD2 : SqL K H2 D [.ref q0, .ref q1, .ref q2] := SqL.of u2
        have MM := N.timeM m1
        refine ⟨_, rfl, D, _, 0, _, rfl, rfl, hD2, rfl, _, rfl, D, _, 1, _, rfl, rfl, hD2, rfl, _, rfl, D, _, 2, _, rfl, rfl, hD2, rfl, q0, q1, q2, ys, ys, _, _, _, rfl, h0, h1, h2, MM, fun H3 e3 => ⟨_, rfl, ?_⟩⟩
        have e03 : Same H H3 := (sT.trans e2).trans e3
        cases hf : fitsP ys ys (fun z => g z * m) (fun z => o z * m) (timeP m qs) with
        | false => exact iteT (hE hf _ e03)
        | true =>
        refine iteF ?_
        have NN := MM.fits hf
        have hD3 := Same.seq e3 hD2
        refine ⟨_, rfl, D, _, 0, _, rfl, rfl, hD3, rfl, _, rfl, D, _, 1, _, rfl, rfl, hD3, rfl, _, rfl, D, _, 2, _, rfl, rfl, hD3, rfl, rfl, rfl, fun y dy hy hdy n => ?_⟩
        have nx : ∀ b u, H3 b = some u → b ≠ y ∧ b ≠ dy := fun b u e => ⟨ne_of_none e hy, ne_of_none e hdy⟩
        have up : ∀ b u, H3 b = some u → upd (upd H3 dy (.own y)) y (.ins Cp dy []) b = some u := fun b u e => by
          rw [upd_ne (nx b u e).1, upd_ne (nx b u e).2]; exact e
        refine ⟨y, dy, q0, q1, q2, ys, ys, _, _, _, rfl, upd_same, by rw [upd_ne n, upd_same], n, up _ _ (e3 _ _ h0), up _ _ (e3 _ _ h1), up _ _ (e3 _ _ h2), NN, fun H4 ys' qs2 k2 hP2 N2 pm' asc' pq' srt' => ⟨rfl, hQ hf y H4 (fun b u z => ?_) ⟨dy, ys', qs2, hP2, N2, pm'.trans pm, asc', pq'.trans (pq.map _), srt'⟩⟩⟩
        exact k2 b u (nx _ _ (e03 _ _ z)).1 (nx _ _ (e03 _ _ z)).2 (up _ _ (e03 _ _ z))
end
end MN
/-! the draws of the laws k05 .. k09: rates, priced -/
namespace MN
open PySem PySem.Spec PyProof.Rows L2
theorem getElem?_mem_take {α : Type} {l : List α} {k i : Nat} {a : α} (h : l[k]? = some a) (hk : k < i) : a ∈ l.take i := by
  refine List.mem_iff_getElem?.mpr ⟨k, ?_⟩
  rw [List.getElem?_take, if_pos hk]; exact h
section
variable {K : PySem.W.Frag} {l p D : Addr} {H1 : Hp} {σ : L2.St} {vs : List Nat} {te : TE} {j : Nat} {Qd : Hp → Prop} {W : Int} {zs : List Str}
/-- [(z, a drawn number) for z in signs] -/
theorem lc_draws (hl : SqL K H1 l (strsV zs)) (nlp : l ≠ p) (nd : zs.Nodup) (l5 : zs.length ≤ 1000) (hp : Pot H1 p) (hD : H1 D = none) (hw : ∀ z ∈ zs, wipe ((wipe σ vs).set j (some (.str z))) vs = wipe σ vs)
    (he : ∀ z ∈ zs, ∀ H2, Ex p H1 H2 → ∀ Q : VK, (∀ n H3 T, 1 ≤ n → n ≤ W → Ex p H2 H3 → H3 T = none → Q (.ref T) (upd H3 T (.tup [.str z, .int n]))) → te ((wipe σ vs).set j (some (.str z))) H2 Q)
    (hd : ∀ H' ts g, Ex p H1 H' → H' D = some (.lst (ts.map V.ref)) → (∀ z ∈ zs, 1 ≤ g z ∧ g z ≤ W) → Paired (fun t (kv : Key × V) => SqT K H' t [kV kv.1, kv.2]) ts (dkF zs g) → Qd H') : LcGoal (Itl K l) (gName j) tYes te vs σ H1 D Qd := by
  have nDp : D ≠ p := by
    obtain ⟨_, _, _, e⟩ := hp
    exact (ne_of_none e hD).symm
  refine lc_it walk_list (fun i H' => Ex p H1 H' ∧ ∃ (ts : List Addr) (g : Str → Int), ts.length = i ∧ H' D = some (.lst (ts.map V.ref)) ∧ (∀ z ∈ zs.take i, 1 ≤ g z ∧ g z ≤ W) ∧ ∀ (k : Nat) (t : Addr), ts[k]? = some t → t ≠ p ∧ t ≠ D ∧ ∃ z, zs[k]? = some z ∧ H' t = some (.tup [.str z, .int (g z)])) ⟨(Ex.refl hp).new hD, [], fun _ => 1, rfl, upd_same, by simp, by simp⟩ (fun i H' _ e => e.1.seqL hl nlp) (fun i x Ha Hb hi e y => ?_) (fun H' e => ?_)
  · obtain ⟨rfl, hx⟩ := y
    obtain ⟨ex, ts, g, lt, hDa, gb, at_⟩ := e
    have hx' : (zs.map V.str)[i]? = some x := hx
    rw [List.getElem?_map] at hx'
    obtain ⟨z, hz, rfl⟩ := Option.map_eq_some_iff.mp hx'
    have mz := List.mem_of_getElem? hz
    have nz := take_nodup nd hz
    refine ⟨hw z mz, yes_q (iteT (he z mz _ ex _ fun n H3 T n1 n2 ex3 hT => ⟨ts.map V.ref, ?_, ?_, ?_, ts ++ [T], fun y => if y = z then n else g y, ?_, ?_, fun y hy => ?_, fun k t ht => ?_⟩))⟩
    · have := ex3.keep _ _ nDp hDa
      rw [upd_ne (ne_of_none this hT)]; exact this
    · have : 100000 < sizeLine := by decide
      have : i < (strsV zs).length := hi
      simp [strsV] at this
      rw [List.length_map]
      omega
    · exact ((ex.trans ex3).new hT).put hD nDp
    · rw [List.length_append, lt]; rfl
    · rw [upd_same, List.map_append]; rfl
    · show 1 ≤ (if y = z then n else g y) ∧ (if y = z then n else g y) ≤ W
      rw [List.take_add_one, hz] at hy
      by_cases e : y = z
      · rw [if_pos e]; exact ⟨n1, n2⟩
      · rw [if_neg e]
        refine gb y ?_
        simpa [e] using hy
    · have hDc := ex3.keep _ _ nDp hDa
      by_cases hk : k < ts.length
      · rw [List.getElem?_append_left hk] at ht
        obtain ⟨a1, a2, y, hy, hty⟩ := at_ k t ht
        have q3 := ex3.keep _ _ a1 hty
        refine ⟨a1, a2, y, hy, ?_⟩
        rw [upd_ne a2, upd_ne (ne_of_none q3 hT), q3]
        show _ = some (HO.tup [V.str y, V.int (if y = z then n else g y)])
        rw [if_neg]
        intro e
        exact nz (by rw [← e]; exact getElem?_mem_take hy (by omega))
      · have hk2 : k = ts.length := by
          have := (List.getElem?_eq_some_iff.mp ht).1
          rw [List.length_append, List.length_singleton] at this
          omega
        subst hk2
        rw [List.getElem?_append_right (Nat.le_refl _), Nat.sub_self] at ht
        cases (show some T = some t from ht)
        obtain ⟨_, _, _, e3⟩ := ex3.pot
        refine ⟨(ne_of_none e3 hT).symm, (ne_of_none hDc hT).symm, z, by rw [lt]; exact hz, ?_⟩
        rw [upd_ne (ne_of_none hDc hT).symm, upd_same]
        show _ = some (HO.tup [V.str z, V.int (if z = z then n else g z)])
        rw [if_pos rfl]
  · obtain ⟨ex, ts, g, lt, hDa, gb, at_⟩ := e
    have lz : (strsV zs).length = zs.length := by simp [strsV]
    rw [lz] at lt gb
    rw [List.take_length] at gb
    refine hd H' ts g ex hDa gb (paired_of (by simp [dkF, lt]) fun k t kv ht hkv => ?_)
    obtain ⟨_, _, z, hz, htz⟩ := at_ k t ht
    unfold dkF at hkv
    rw [List.getElem?_map, hz] at hkv
    cases hkv
    exact .inl (.inl htz)
end
/-- swap prices drawn so far -/
structure SubP (zs : List Str) (i j : Nat) (ps : List ((Str × Str) × Int)) : Prop where
  nd : (ps.map Prod.fst).Nodup
  ks : ∀ e ∈ ps, (e.1.1 ∈ zs.take i ∨ (zs[i]? = some e.1.1 ∧ e.1.2 ∈ zs.take j)) ∧ e.1.1 ∈ zs ∧ e.1.2 ∈ zs ∧ e.1.1 ≠ e.1.2 ∧ 1 ≤ e.2 ∧ e.2 ≤ 18
theorem SubP.next {zs : List Str} {i j : Nat} {ps : List ((Str × Str) × Int)} (S : SubP zs i j ps) : SubP zs i (j + 1) ps :=
  ⟨S.nd, fun e he => ⟨(S.ks e he).1.imp id fun q => ⟨q.1, by rw [List.take_add_one]; exact List.mem_append_left _ q.2⟩, (S.ks e he).2⟩⟩
theorem SubP.row {zs : List Str} {i j : Nat} {ps : List ((Str × Str) × Int)} (S : SubP zs i j ps) : SubP zs (i + 1) 0 ps :=
  ⟨S.nd, fun e he => ⟨.inl (by
    rw [List.take_add_one]
    rcases (S.ks e he).1 with q | q
    · exact List.mem_append_left _ q
    · rw [q.1]; exact List.mem_append_right _ (by simp)), (S.ks e he).2⟩⟩
theorem SubP.new {zs : List Str} {i j : Nat} {ps : List ((Str × Str) × Int)} {x y : Str} {n : Int} (S : SubP zs i j ps) (nd : zs.Nodup) (hi : zs[i]? = some x) (hj : zs[j]? = some y) (ne : x ≠ y) (n1 : 1 ≤ n) (n2 : n ≤ 18) : SubP zs i (j + 1) (ps ++ [((x, y), n)]) ∧ (x, y) ∉ ps.map Prod.fst := by
  have nw : (x, y) ∉ ps.map Prod.fst := fun q => by
    obtain ⟨e, he, q⟩ := List.mem_map.mp q
    rcases (S.ks e he).1 with a | a
    · rw [q] at a; exact take_nodup nd hi a
    · rw [q] at a; exact take_nodup nd hj a.2
  refine ⟨⟨?_, fun e he => ?_⟩, nw⟩
  · rw [List.map_append, List.nodup_append]
    refine ⟨S.nd, by simp, fun a ha b hb => ?_⟩
    rw [show b = (x, y) by simpa using hb]
    exact fun z => nw (by rw [← z]; exact ha)
  · rcases List.mem_append.mp he with he | he
    · exact S.next.ks e he
    · rw [List.mem_singleton.mp he]
      exact ⟨.inr ⟨hi, by rw [List.take_add_one, hj]; simp⟩, List.mem_of_getElem? hi, List.mem_of_getElem? hj, ne, n1, n2⟩
theorem SubP.len {zs : List Str} {i j : Nat} {ps : List ((Str × Str) × Int)} (S : SubP zs i j ps) : ps.length ≤ zs.length * zs.length := by
  have := pairs_len (ys := zs) S.nd fun e he => by
    obtain ⟨x, hx, rfl⟩ := List.mem_map.mp he
    exact ⟨(S.ks x hx).2.1, (S.ks x hx).2.2.1⟩
  rwa [List.length_map] at this
end MN
/-! _law_tables: drawn put, out and swap prices -/
namespace MN
open PySem PySem.Spec PyProof.Rows L2
theorem Ex.obj {p : Addr} {H H' : Hp} (ex : Ex p H H') (hp : Pot H p) {b : Addr} {u : HO} (h : H b = some u) (hu : ∀ a b c, u ≠ potO a b c) : H' b = some u :=
  ex.keep _ _ (fun z => by obtain ⟨a, b, c, e⟩ := hp; rw [z, e] at h; exact hu a b c (Option.some.inj h).symm) h
theorem Ex.tup {p : Addr} {H H' : Hp} (ex : Ex p H H') (hp : Pot H p) {b : Addr} {xs : List V} (h : H b = some (.tup xs)) : H' b = some (.tup xs) := ex.obj hp h fun _ _ _ z => by cases z
theorem Ex.dK {p : Addr} {H H' : Hp} (ex : Ex p H H') (hp : Pot H p) {b : Addr} {kvs : List (Key × V)} (h : H b = some (.dK kvs)) : H' b = some (.dK kvs) := ex.obj hp h fun _ _ _ z => by cases z
theorem Ex.dT {p : Addr} {H H' : Hp} (ex : Ex p H H') (hp : Pot H p) {b : Addr} {kvs : List (List Key × V)} (h : H b = some (.dT kvs)) : H' b = some (.dT kvs) := ex.obj hp h fun _ _ _ z => by cases z
theorem Ex.refs {p : Addr} {H H' : Hp} (ex : Ex p H H') (hp : Pot H p) {b : Addr} {bs : List Addr} (h : H b = some (.lst (bs.map V.ref))) : H' b = some (.lst (bs.map V.ref)) := ex.obj hp h fun _ _ _ z => by
  injection z with z
  cases bs with
  | nil => cases z
  | cons a l => injection z with z _; cases z
theorem Rec.ex {p : Addr} {H H' : Hp} {t : Addr} {zs zs2 : List Str} {g o : Str → Int} {ps : List SP2} (ex : Ex p H H') (hp : Pot H p) (h : Rec H t zs zs2 g o ps) : Rec H' t zs zs2 g o ps := by
  obtain ⟨A, B, S, h1, h2, h3, h4⟩ := h
  exact ⟨A, B, S, ex.refs hp (bs := [A, B, S]) h1, ex.dK hp h2, ex.dK hp h3, ex.dT hp h4⟩
theorem PrS.ex {Cp p : Addr} {H H' : Hp} {x : Addr} {zs : List Str} {g o : Str → Int} {ps : List SP2} (ex : Ex p H H') (hp : Pot H p) (h : PrS Cp H x zs g o ps) : PrS Cp H' x zs g o ps := by
  obtain ⟨dx, ys, qs, ⟨A, B, S, ws, h1, h2, h3, h4, h5, h6, h7, h8⟩, r⟩ := h
  exact ⟨dx, ys, qs, ⟨A, B, S, ws, ⟨ex.obj hp h1.1 (fun _ _ _ z => by unfold SlX.SlO at z; cases z), ex.obj hp h1.2 (fun _ _ _ z => by cases z)⟩, h2, h3, h4, h5, ex.dK hp h6, ex.dK hp h7, ex.dT hp h8⟩, r⟩
theorem PrN.of_draws {zs zs1 zs2 : List Str} {g o : Str → Int} {ps : List SP2} (ok : SgnOk zs) (p1 : zs1.Perm zs) (p2 : zs2.Perm zs) (hg : ∀ z ∈ zs1, 1 ≤ g z ∧ g z ≤ 9) (ho : ∀ z ∈ zs2, 1 ≤ o z ∧ o z ≤ 9) (nd : (ps.map Prod.fst).Nodup) (sp : ∀ x ∈ ps, x.1.1 ∈ zs ∧ x.1.2 ∈ zs ∧ x.1.1 ≠ x.1.2 ∧ 1 ≤ x.2 ∧ x.2 ≤ 18) : PrN zs1 zs2 g o ps := by
  have l1 : zs1.length ≤ 5 := by rw [p1.length_eq]; exact ok.le
  have sp' : ∀ x ∈ ps, x.1.1 ∈ zs1 ∧ x.1.2 ∈ zs1 ∧ x.1.1 ≠ x.1.2 ∧ 1 ≤ x.2 ∧ x.2 ≤ 18 := fun x hx => ⟨p1.mem_iff.mpr (sp x hx).1, p1.mem_iff.mpr (sp x hx).2.1, (sp x hx).2.2⟩
  exact ⟨fun z h => ok.one z (p1.mem_iff.mp h), p1.nodup_iff.mpr ok.nodup, by rw [p1.length_eq]; exact ok.pos, l1, p2.trans p1.symm, hg, fun z h => ho z (p2.mem_iff.mpr (p1.mem_iff.mp h)), nd, sp', len25 l1 nd fun x hx => ⟨(sp' x hx).1, (sp' x hx).2.1⟩⟩
/-- pairs of signs that stand as tuples -/
def TupF (H : Hp) (F : List ((Str × Str) × Addr)) : Prop := ∀ e ∈ F, H e.2 = some (.tup [.str e.1.1, .str e.1.2])
abbrev refF (F : List ((Str × Str) × Addr)) : List V := F.map fun e => V.ref e.2
abbrev oneF (F : List ((Str × Str) × Addr)) : List SP2 := F.map fun e => (e.1, (1 : Int))
theorem refF_snoc (F : List ((Str × Str) × Addr)) (e : (Str × Str) × Addr) : refF (F ++ [e]) = refF F ++ [V.ref e.2] := by unfold refF; rw [List.map_append]; rfl
theorem refF_app (F G : List ((Str × Str) × Addr)) : refF (F ++ G) = refF F ++ refF G := by unfold refF; rw [List.map_append]
theorem oneF_snoc (F : List ((Str × Str) × Addr)) (e : (Str × Str) × Addr) : oneF (F ++ [e]) = oneF F ++ [(e.1, 1)] := by unfold oneF; rw [List.map_append]; rfl
theorem TupF.ex {p : Addr} {H H' : Hp} {F : List ((Str × Str) × Addr)} (h : TupF H F) (ex : Ex p H H') (hp : Pot H p) : TupF H' F := fun e he => ex.tup hp (h e he)
/-- what is a tuple stays one -/
def TK (H H' : Hp) : Prop := ∀ b xs, H b = some (.tup xs) → H' b = some (.tup xs)
theorem Ex.tk {p : Addr} {H H' : Hp} (ex : Ex p H H') (hp : Pot H p) : TK H H' := fun _ _ h => ex.tup hp h
theorem TK.put {H : Hp} {D : Addr} {xs ys : List V} (h : H D = some (.lst xs)) : TK H (upd H D (.lst ys)) := fun b zs q => by rw [upd_ne (fun z => by rw [z, h] at q; cases q)]; exact q
theorem TK.trans {H H1 H2 : Hp} (a : TK H H1) (b : TK H1 H2) : TK H H2 := fun x u h => b x u (a x u h)
theorem TupF.tk {H H' : Hp} {F : List ((Str × Str) × Addr)} (h : TupF H F) (e : TK H H') : TupF H' F := fun x hx => e _ _ (h x hx)
theorem PairsT.tk {H H' : Hp} {ts : List Addr} {kvs : List (List Key × V)} (h : PairsT H ts kvs) (e : TK H H') : PairsT H' ts kvs := by
  unfold PairsT at *
  induction h with
  | nil => exact .nil
  | cons a b ih =>
    obtain ⟨q, h1, h2⟩ := a
    exact .cons ⟨q, e _ _ h1, e _ _ h2⟩ ih
theorem PairsT.snoc {H : Hp} {t q : Addr} {k : List Key} {v : V} {ts : List Addr} {kvs : List (List Key × V)} (h : PairsT H ts kvs) (h1 : H t = some (.tup [.ref q, v])) (h2 : H q = some (.tup (k.map kV))) : PairsT H (ts ++ [t]) (kvs ++ [(k, v)]) := by
  unfold PairsT at *
  induction h with
  | nil => exact .cons ⟨q, h1, h2⟩ .nil
  | cons a b ih => exact .cons a ih
theorem TupF.same {H H' : Hp} {F : List ((Str × Str) × Addr)} (h : TupF H F) (e : Same H H') : TupF H' F := fun x hx => e _ _ (h x hx)
section
variable {P : Program} {w : World} {K : PySem.W.Frag} {mg : Str → Option Value} {base : Heap}
def spTables : Sp := fun vs H Q _ => ∃ p l zs, vs = [.ref p, .ref l] ∧ Pot H p ∧ l ≠ p ∧ H l = some (.lst (strsV zs)) ∧ SgnOk zs ∧ ∀ t zs1 zs2 g o ps H', Ex p H H' → Rec H' t zs1 zs2 g o ps → PrN zs1 zs2 g o ps → Q (.ref t) H'
abbrev N_law_tables : List Str := ["_law_pot", "_law_signs_here", "_law_most", "_law_far", "_law_share", "_law_puts", "_law_sign", "_law_outs", "_law_pairs", "_law_one", "_law_other", "_law_pair"]
theorem sc_law_tables : FnScope N_law_tables ["_law_pot", "_law_signs_here"] (defScope (top 33)) := ⟨rfl, rfl, rfl, by decide +kernel, rfl, by decide +kernel, by decide +kernel⟩
theorem c_law_tables (A : At K mg "_law_tables" (top 33)) (B : Blt mg) (c_law_dip : Cal P w K mg base 1 "_law_dip" spDip) (c_law_choose : Cal P w K mg base 2 "_law_choose" (spChoose K)) (c_law_shuffled : Cal P w K mg base 2 "_law_shuffled" (spShufI K)) : Cal P w K mg base 3 "_law_tables" spTables := by
  refine cal_of A sc_law_tables (fun _ _ _ _ _ _ us hl => match us, hl with | [_, _], _ => rfl) (fun vs H Q E h => ?_) (fun _ cdv A outer s H vs Q E hr h => ?_)
  · obtain ⟨_, _, _, rfl, _⟩ := h; rfl
  · obtain ⟨p, l, zs, rfl, hp, nlp, hl, ok, hQ⟩ := h
    refine ⟨_, (pss_cons (ps_asg (pe_tup (pa_cons (pe_c c_law_choose hr (by decide) (by rfl) (pa_cons (pv 0) (pa_cons (pe_lst (pa_cons pe_int (pa_cons pe_int (pa_cons pe_int pa_nil)))) pa_nil))) (pa_cons (pe_c c_law_choose hr (by decide) (by rfl) (pa_cons (pv 0) (pa_cons (pe_lst (pa_cons pe_int (pa_cons pe_int (pa_cons pe_int (pa_cons pe_int pa_nil))))) pa_nil))) (pa_cons (pe_c c_law_choose hr (by decide) (by rfl) (pa_cons (pv 0) (pa_cons (pe_lst (pa_cons pe_int (pa_cons pe_int (pa_cons pe_int (pa_cons pe_int pa_nil))))) pa_nil))) pa_nil)))) (pg_tup rfl (pgs_cons (pg_name (i := 2) sc_law_tables.nd rfl (Or.inr rfl)) (pgs_cons (pg_name (i := 3) sc_law_tables.nd rfl (Or.inr rfl)) (pgs_cons (pg_name (i := 4) sc_law_tables.nd rfl (Or.inr rfl)) pgs_nil)))))
      (pss_cons (ps_set (i := 5) sc_law_tables.nd rfl (Or.inl rfl) (pe_callTy (call_dictP rfl) (by rfl) B.dict (by decide +kernel) (pa_cons (pe_lc (own := [("_law_sign", 6)]) (g := gName 6) (tt := tYes) (by rfl) sc_law_tables.nd (pi_list (pe_c c_law_shuffled hr (by decide) (by rfl) (pa_cons (pv 0) (pa_cons (pv 1) pa_nil)))) (blkOk_by (own := [("_law_sign", 6)]) (N := N_law_tables) (sc := defScope (top 33)) (by decide +kernel)) (fun _ _ _ _ _ => (pg_name (i := 6) sc_law_tables.nd rfl (Or.inl rfl))) (fun _ _ _ _ _ => pts_nil) (fun _ _ _ _ _ => (pe_tup (pa_cons (pv 6) (pa_cons (pe_op op_add pe_int (pe_c c_law_dip hr (by decide) (by rfl) (pa_cons (pv 0) (pa_cons (pv 2) pa_nil)))) pa_nil))))) pa_nil)))
      (pss_cons (ps_set (i := 7) sc_law_tables.nd rfl (Or.inl rfl) (pe_callTy (call_dictP rfl) (by rfl) B.dict (by decide +kernel) (pa_cons (pe_lc (own := [("_law_sign", 6)]) (g := gName 6) (tt := tYes) (by rfl) sc_law_tables.nd (pi_list (pe_c c_law_shuffled hr (by decide) (by rfl) (pa_cons (pv 0) (pa_cons (pv 1) pa_nil)))) (blkOk_by (own := [("_law_sign", 6)]) (N := N_law_tables) (sc := defScope (top 33)) (by decide +kernel)) (fun _ _ _ _ _ => (pg_name (i := 6) sc_law_tables.nd rfl (Or.inl rfl))) (fun _ _ _ _ _ => pts_nil) (fun _ _ _ _ _ => (pe_tup (pa_cons (pv 6) (pa_cons (pe_op op_add pe_int (pe_c c_law_dip hr (by decide) (by rfl) (pa_cons (pv 0) (pa_cons pe_int pa_nil)))) pa_nil))))) pa_nil)))
      (pss_cons (ps_set (i := 8) sc_law_tables.nd rfl (Or.inl rfl) (pe_lst pa_nil))
      (pss_cons (ps_for PassesOwn.never rfl (pi_list (pv 1)) (pg_name (i := 9) sc_law_tables.nd rfl (Or.inr rfl))
        (pss_one (ps_expr (pe_bm PySem.F.plainAttrs_list PySem.F.slot_list_extend PySem.F.type_list_extend mt_extend (pv 8) (pa_cons (pe_lc (own := [("_law_other", 10)]) (g := gName 10) (by rfl) sc_law_tables.nd (pi_list (pv 1)) (blkOk_by (own := [("_law_other", 10)]) (N := N_law_tables) (sc := defScope (top 33)) (by decide +kernel)) (fun _ _ _ _ _ => (pg_name (i := 10) sc_law_tables.nd rfl (Or.inl rfl))) (fun _ _ _ _ _ => pts_one (pt_cmpR op_ne (pv 9) (pv 10) (nomark _))) (fun _ _ _ _ _ => (pe_tup (pa_cons (pv 9) (pa_cons (pv 10) pa_nil))))) pa_nil)))))
      (pss_cons (ps_setLc (i := 8) (own := [("_law_pair", 11)]) (g := gName 11) (by rfl) sc_law_tables.nd rfl rfl (sw_true rfl rfl rfl (by decide +kernel)) (pi_list (pe_c c_law_shuffled hr (by decide) (by rfl) (pa_cons (pv 0) (pa_cons (pv 8) pa_nil)))) (blkOk_by (own := [("_law_pair", 11)]) (N := N_law_tables) (sc := defScope (top 33)) (by decide +kernel)) (fun _ _ _ _ _ => (pg_name (i := 11) sc_law_tables.nd rfl (Or.inl rfl))) (fun _ _ _ _ _ => pts_one (pt_cmpR op_eq (pe_c c_law_dip hr (by decide) (by rfl) (pa_cons (pv 0) (pa_cons (pv 4) pa_nil))) pe_int (nomark _))) (fun _ _ _ _ _ => (pv 11)))
      (pss_one (ps_ret (pe_lst (pa_cons (pv 5) (pa_cons (pv 7) (pa_cons (pe_callTy (call_dictPT rfl hr.units) (by rfl) B.dict (by decide +kernel) (pa_cons (pe_lc (own := [("_law_pair", 11)]) (g := gName 11) (tt := tYes) (by rfl) sc_law_tables.nd (pi_list (pv 8)) (blkOk_by (own := [("_law_pair", 11)]) (N := N_law_tables) (sc := defScope (top 33)) (by decide +kernel)) (fun _ _ _ _ _ => (pg_name (i := 11) sc_law_tables.nd rfl (Or.inl rfl))) (fun _ _ _ _ _ => pts_nil) (fun _ _ _ _ _ => (pe_tup (pa_cons (pv 11) (pa_cons (pe_op op_add pe_int (pe_c c_law_dip hr (by decide) (by rfl) (pa_cons (pv 0) (pa_cons (pv 3) pa_nil)))) pa_nil))))) pa_nil)) pa_nil)))))))))))), ?_⟩
    have two : 2 ≤ sizeLine := by decide
    have three : 3 ≤ sizeLine := by decide
    have big : 100000 < sizeLine := by decide
    have nd := ok.nodup
    have l5 := ok.le
    have lz : (strsV zs).length = zs.length := by simp [strsV]
    have hlx : ∀ {H' : Hp}, Ex p H H' → H' l = some (.lst (strsV zs)) := fun ex => ex.keep _ _ nlp hl
    -- the three numbers
    have ex0 := Ex.refl hp
    refine ⟨_, rfl, three, fun q0 hq0 => ?_⟩
    have nq0 : q0 ≠ p := by obtain ⟨_, _, _, e⟩ := ex0.pot; exact (ne_of_none e hq0).symm
    have ex10 := ex0.new (o := .lst [.int 2, .int 9, .int 9]) hq0
    refine ⟨p, .ref q0, rfl, ex10.pot, .inr ⟨q0, [.int 2, .int 9, .int 9], rfl, nq0, SqL.of upd_same, by decide, by decide, fun v a' b' c' hv => ?_⟩⟩
    obtain ⟨M, rfl, hM⟩ : ∃ m : Int, v = .int m ∧ (m = 2 ∨ m = 9) := by
      have : v = .int 2 ∨ v = .int 9 := by simpa using hv
      rcases this with rfl | rfl
      all_goals exact ⟨_, rfl, by omega⟩
    have ex1 := ex10.trans (Ex.turn (p := p) (a := a') (b := b') (c := c'))
    generalize upd (upd H q0 (.lst [.int 2, .int 9, .int 9])) p (potO a' b' c') = H1 at ex1 ⊢
    refine ⟨_, rfl, (by show 4 ≤ sizeLine; decide), fun q1 hq1 => ?_⟩
    have nq1 : q1 ≠ p := by obtain ⟨_, _, _, e⟩ := ex1.pot; exact (ne_of_none e hq1).symm
    have ex20 := ex1.new (o := .lst [.int 1, .int 2, .int 6, .int 18]) hq1
    refine ⟨p, .ref q1, rfl, ex20.pot, .inr ⟨q1, [.int 1, .int 2, .int 6, .int 18], rfl, nq1, SqL.of upd_same, by decide, by decide, fun v a' b' c' hv => ?_⟩⟩
    obtain ⟨W, rfl, hW⟩ : ∃ m : Int, v = .int m ∧ (m = 1 ∨ m = 2 ∨ m = 6 ∨ m = 18) := by
      have : v = .int 1 ∨ v = .int 2 ∨ v = .int 6 ∨ v = .int 18 := by simpa using hv
      rcases this with rfl | rfl | rfl | rfl
      all_goals exact ⟨_, rfl, by omega⟩
    have ex2 := ex20.trans (Ex.turn (p := p) (a := a') (b := b') (c := c'))
    generalize upd (upd H1 q1 (.lst [.int 1, .int 2, .int 6, .int 18])) p (potO a' b' c') = H2 at ex2 ⊢
    refine ⟨_, rfl, (by show 4 ≤ sizeLine; decide), fun q2 hq2 => ?_⟩
    have nq2 : q2 ≠ p := by obtain ⟨_, _, _, e⟩ := ex2.pot; exact (ne_of_none e hq2).symm
    have ex30 := ex2.new (o := .lst [.int 1, .int 2, .int 4, .int 9]) hq2
    refine ⟨p, .ref q2, rfl, ex30.pot, .inr ⟨q2, [.int 1, .int 2, .int 4, .int 9], rfl, nq2, SqL.of upd_same, by decide, by decide, fun v a' b' c' hv => ?_⟩⟩
    obtain ⟨R, rfl, hR⟩ : ∃ m : Int, v = .int m ∧ (m = 1 ∨ m = 2 ∨ m = 4 ∨ m = 9) := by
      have : v = .int 1 ∨ v = .int 2 ∨ v = .int 4 ∨ v = .int 9 := by simpa using hv
      rcases this with rfl | rfl | rfl | rfl
      all_goals exact ⟨_, rfl, by omega⟩
    have ex3 := ex30.trans (Ex.turn (p := p) (a := a') (b := b') (c := c'))
    generalize upd (upd H2 q2 (.lst [.int 1, .int 2, .int 4, .int 9])) p (potO a' b' c') = H3 at ex3 ⊢
    have bM : 1 ≤ M ∧ M ≤ 9 := by omega
    have bW : 1 ≤ W ∧ W ≤ 18 := by omega
    have bR : 1 ≤ R ∧ R ≤ 9 := by omega
    clear ex0 ex10 ex20 ex30 ex1 ex2 hq0 hq1 hq2 nq0 nq1 nq2 hM hW hR
    refine ⟨three, fun T hT => ⟨T, _, rfl, .inl (.inl upd_same), rfl, _, _, rfl, _, _, rfl, _, _, rfl, rfl, ?_⟩⟩
    replace ex3 := ex3.new (o := .tup [.int M, .int W, .int R]) hT
    generalize upd H3 T (.tup [.int M, .int W, .int R]) = H4 at ex3 ⊢
    clear hT
    -- drawn numbers by signs
    have tossing : ∀ {B0 : Int} {H2 : Hp} {z : Str} {Q : VK}, Pot H2 p → (∀ n H3 T, 1 ≤ n → n ≤ B0 → Ex p H2 H3 → H3 T = none → Q (.ref T) (upd H3 T (.tup [.str z, .int n]))) → ∃ a b c, H2 p = some (potO a b c) ∧ ∀ r a' b' c', 0 ≤ r → r < B0 → ∀ T, upd H2 p (potO a' b' c') T = none → Q (.ref T) (upd (upd H2 p (potO a' b' c')) T (.tup [.str z, .int (1 + r)])) := fun {B0 H2 z Q} hp2 hq => by
      obtain ⟨a, b, c, e⟩ := hp2
      exact ⟨a, b, c, e, fun r a' b' c' r0 r1 T hT => hq (1 + r) _ T (by omega) (by omega) Ex.turn hT⟩
    refine ⟨_, rfl, _, rfl, p, _, _, rfl, ex3.pot, .inl ⟨l, rfl, nlp, SqL.of (hlx ex3)⟩, by omega, fun ys q0 H5 hperm hq0 ex4 h0 => ?_⟩
    obtain ⟨zs1, rfl, hz1⟩ := perm_strsP hperm
    have nq0 : q0 ≠ p := by obtain ⟨_, _, _, e⟩ := ex3.pot; exact (ne_of_none e hq0).symm
    have l1 := hz1.length_eq
    have nd1 := hz1.nodup_iff.mpr nd
    refine ⟨q0, rfl, ⟨_, SqL.of h0⟩, fun D hD => ?_⟩
    refine lc_draws (W := M) (SqL.of h0) nq0 nd1 (by omega) ex4.pot hD (fun _ _ => rfl) (fun z hz H2 ex2 Q q => ?_) (fun H6 ts g ex5 hD2 gb pr => ?_)
    · obtain ⟨a, b, c, e, go⟩ := tossing ex2.pot q
      exact ⟨_, rfl, _, rfl, _, rfl, p, M, a, b, c, rfl, e, by omega, by omega, fun r a' b' c' r0 r1 => ⟨_, _, rfl, rfl, two, fun T hT => go r a' b' c' r0 r1 T hT⟩⟩
    refine ⟨D, ts, _, rfl, SqL.of hD2, pr, fun GA hGA => ?_⟩
    rw [show mergeK [] (dkF zs1 g) = dkF zs1 g from mergeK_nodup (more := dkF zs1 g) [] (dkF_nodup nd1 g)]
    have ex6 : Ex p H (upd H6 GA (.dK (dkF zs1 g))) := ((ex3.trans ex4).trans ex5).new hGA
    have hG6 : upd H6 GA (.dK (dkF zs1 g)) GA = some (.dK (dkF zs1 g)) := upd_same
    generalize upd H6 GA (.dK (dkF zs1 g)) = H7 at ex6 hG6 ⊢
    clear ex3 ex4 ex5 hD2 pr hD h0 hq0 hperm hGA
    -- out
    refine ⟨_, rfl, _, rfl, p, _, _, rfl, ex6.pot, .inl ⟨l, rfl, nlp, SqL.of (hlx ex6)⟩, by omega, fun ys q0 H8 hperm hq0 ex4 h0 => ?_⟩
    obtain ⟨zs2, rfl, hz2⟩ := perm_strsP hperm
    have nq0 : q0 ≠ p := by obtain ⟨_, _, _, e⟩ := ex6.pot; exact (ne_of_none e hq0).symm
    have l2 := hz2.length_eq
    have nd2 := hz2.nodup_iff.mpr nd
    refine ⟨q0, rfl, ⟨_, SqL.of h0⟩, fun D hD => ?_⟩
    refine lc_draws (W := 9) (SqL.of h0) nq0 nd2 (by omega) ex4.pot hD (fun _ _ => rfl) (fun z hz H2 ex2 Q q => ?_) (fun H9 ts o ex5 hD2 ob pr => ?_)
    · obtain ⟨a, b, c, e, go⟩ := tossing ex2.pot q
      exact ⟨_, rfl, _, rfl, p, 9, a, b, c, rfl, e, by omega, by omega, fun r a' b' c' r0 r1 => ⟨_, _, rfl, rfl, two, fun T hT => go r a' b' c' r0 r1 T hT⟩⟩
    refine ⟨D, ts, _, rfl, SqL.of hD2, pr, fun GB hGB => ?_⟩
    rw [show mergeK [] (dkF zs2 o) = dkF zs2 o from mergeK_nodup (more := dkF zs2 o) [] (dkF_nodup nd2 o)]
    have ex7 : Ex p H (upd H9 GB (.dK (dkF zs2 o))) := ((ex6.trans ex4).trans ex5).new hGB
    have hG7 : upd H9 GB (.dK (dkF zs2 o)) GA = some (.dK (dkF zs1 g)) := by
      have := (ex4.trans ex5).dK ex6.pot hG6
      rw [upd_ne (ne_of_none this hGB)]; exact this
    have hB7 : upd H9 GB (.dK (dkF zs2 o)) GB = some (.dK (dkF zs2 o)) := upd_same
    generalize upd H9 GB (.dK (dkF zs2 o)) = H10 at ex7 hG7 hB7 ⊢
    clear ex6 ex4 ex5 hD2 pr hD h0 hq0 hperm hGB hG6
    -- pairs
    refine ⟨Nat.zero_le _, fun L hL => ?_⟩
    have f8 := same_new (o := .lst []) hL
    have ex8 := ex7.new (o := .lst []) hL
    have hG8 := f8 _ _ hG7
    have hB8 := f8 _ _ hB7
    have fL : H L = none := ex7.free hp hL
    have nLp : L ≠ p := by obtain ⟨_, _, _, e⟩ := hp; exact (ne_of_none e fL).symm
    have nlL : l ≠ L := ne_of_none hl fL
    have hL8 : upd H10 L (.lst []) L = some (.lst (refF [])) := upd_same
    generalize upd H10 L (.lst []) = H11 at ex8 hG8 hB8 hL8 ⊢
    clear f8 ex7 hG7 hB7 hL
    have keepL : ∀ {F : List ((Str × Str) × Addr)} {i j : Nat}, SubP zs i j (oneF F) → F.length ≤ 25 := fun {F i j} S => by
      have := S.len
      have : zs.length * zs.length ≤ 5 * 5 := Nat.mul_le_mul l5 l5
      rw [List.length_map] at *
      omega
    refine ⟨_, rfl, l, rfl, ⟨_, SqL.of (hlx ex8)⟩, for_it walk_list (fun i σ H' => (∃ o9, σ = [some (.ref p), some (.ref l), some (.int M), some (.int W), some (.int R), some (.ref GA), none, some (.ref GB), some (.ref L), o9, none, none]) ∧ Ex p H H' ∧ H' GA = some (.dK (dkF zs1 g)) ∧ H' GB = some (.dK (dkF zs2 o)) ∧ ∃ F, H' L = some (.lst (refF F)) ∧ TupF H' F ∧ SubP zs i 0 (oneF F)) ⟨⟨_, rfl⟩, ex8, hG8, hB8, [], hL8, fun _ h => (nomatch h), by simp, by simp⟩ (fun i σ H' _ e => SqL.of (hlx e.2.1)) (fun i y σ Ha Hb hi e hy => ?_) (fun σ H12 e => ?_)⟩
    · obtain ⟨rfl, hy⟩ := hy
      clear ex8 hG8 hB8 hL8
      obtain ⟨⟨o9, rfl⟩, exa, hGa, hBa, F, hLa, TF, SP⟩ := e
      rw [List.getElem?_map] at hy
      obtain ⟨x, hx, rfl⟩ := Option.map_eq_some_iff.mp hy
      refine ⟨_, rfl, .inl ⟨rfl, _, SqL.of hLa⟩, _, rfl, l, rfl, ⟨_, SqL.of (hlx exa)⟩, fun D hD => ?_⟩
      have nDp : D ≠ p := by obtain ⟨_, _, _, e⟩ := exa.pot; exact (ne_of_none e hD).symm
      refine lc_it walk_list (fun j H' => Same Hb H' ∧ ∃ S, H' D = some (.lst (refF S)) ∧ TupF H' S ∧ SubP zs i j (oneF (F ++ S))) ⟨same_new hD, [], upd_same, fun _ h => (nomatch h), by rw [List.append_nil]; exact SP⟩ (fun j H' _ e => SqL.of (e.1 _ _ (hlx exa))) (fun j y2 Hq Hc hj e hy => ?_) (fun Hc e => ?_)
      · obtain ⟨rfl, hy⟩ := hy
        obtain ⟨ea, S, hS, TS, SPs⟩ := e
        rw [List.getElem?_map] at hy
        obtain ⟨y, hy3, rfl⟩ := Option.map_eq_some_iff.mp hy
        refine ⟨rfl, _, rfl, _, rfl, rfl, _, rfl, ?_⟩
        by_cases ne : x = y
        · rw [show (!decide (V.str x = V.str y)) = false by simp [ne]]
          exact iteF ⟨ea, S, hS, TS, SPs.next⟩
        · rw [show (!decide (V.str x = V.str y)) = true by simp [ne]]
          refine iteT ⟨_, rfl, _, rfl, two, fun T hT => ⟨refF S, ?_, ?_, ?_, S ++ [((x, y), T)], ?_, ?_, ?_⟩⟩
          · rw [upd_ne (ne_of_none hS hT)]; exact hS
          · have := keepL SPs
            rw [List.length_append] at this
            rw [List.length_map]
            omega
          · intro b u q
            rw [upd_ne (ne_of_none q hD), upd_ne (ne_of_none (ea _ _ q) hT)]
            exact ea _ _ q
          · rw [upd_same, refF_snoc]
          · intro e he
            have nTD : T ≠ D := (ne_of_none hS hT).symm
            rcases List.mem_append.mp he with he | he
            · have q := TS e he
              rw [upd_ne (fun z => by rw [z, hS] at q; cases q), upd_ne (ne_of_none q hT)]
              exact q
            · rw [List.mem_singleton.mp he]
              show upd (upd _ T _) D _ T = _
              rw [upd_ne nTD, upd_same]
          · have := (SPs.new nd hx hy3 ne (n := 1) (by decide) (by decide)).1
            rw [← List.append_assoc, oneF_snoc]
            exact this
      · obtain ⟨ea, S, hS, TS, SPs⟩ := e
        rw [lz] at SPs
        have hLc := ea _ _ hLa
        have nDL : D ≠ L := (ne_of_none hLa hD).symm
        have exc := exa.same ea
        refine ⟨L, D, _, _, rfl, rfl, hLc, hS, ?_, ?_⟩
        · have := keepL SPs
          rw [List.length_append] at this
          rw [List.length_map, List.length_map]
          omega
        · rw [← refF_app]
          have tk : TK Hc (upd Hc L (.lst (refF (F ++ S)))) := TK.put hLc
          refine ⟨⟨_, rfl⟩, exc.put fL nLp, ?_, ?_, F ++ S, upd_same, ?_, SPs.row⟩
          · rw [upd_ne (fun z => by rw [z, hLa] at hGa; cases hGa)]; exact ea _ _ hGa
          · rw [upd_ne (fun z => by rw [z, hLa] at hBa; cases hBa)]; exact ea _ _ hBa
          · intro e he
            rcases List.mem_append.mp he with he | he
            · exact tk _ _ (ea _ _ (TF e he))
            · exact tk _ _ (TS e he)
    clear ex8 hG8 hB8 hL8
    obtain ⟨⟨o9, rfl⟩, ex8, hG8, hB8, F, hL8, TF, SP⟩ := e
    have l25 := keepL SP
    -- some of them, in a drawn order
    refine ⟨_, rfl, _, rfl, p, _, _, rfl, ex8.pot, .inl ⟨L, rfl, nLp, SqL.of hL8⟩, by rw [List.length_map]; omega, fun ys q0 H13 hperm hq0 ex9 h0 => ?_⟩
    obtain ⟨F', pF, rfl⟩ := perm_map_ex hperm
    have nq0 : q0 ≠ p := by obtain ⟨_, _, _, e⟩ := ex8.pot; exact (ne_of_none e hq0).symm
    have TF9 : TupF H13 F' := fun e he => ex9.tup ex8.pot (TF e (pF.mem_iff.mp he))
    have lF' := pF.length_eq
    refine ⟨q0, rfl, ⟨_, SqL.of h0⟩, fun D hD => ?_⟩
    have nDp : D ≠ p := by obtain ⟨_, _, _, e⟩ := ex9.pot; exact (ne_of_none e hD).symm
    refine lc_it walk_list (fun i H' => Ex p H13 H' ∧ ∃ F2 : List ((Str × Str) × Addr), H' D = some (.lst (refF F2)) ∧ F2.Sublist (F'.take i)) ⟨(Ex.refl ex9.pot).new hD, [], upd_same, List.nil_sublist _⟩ (fun i H' _ e => e.1.seqL (SqL.of h0) nq0) (fun i y Ha Hb hi e hy => ?_) (fun H14 e => ?_)
    · obtain ⟨rfl, hy⟩ := hy
      obtain ⟨exa, F2, hDa, sb⟩ := e
      rw [List.getElem?_map] at hy
      obtain ⟨e, he, rfl⟩ := Option.map_eq_some_iff.mp hy
      obtain ⟨a, b, c, ep⟩ := exa.pot
      have sb1 : F2.Sublist (F'.take (i + 1)) := sb.trans (by rw [List.take_add_one]; exact List.sublist_append_left _ _)
      have sb2 : (F2 ++ [e]).Sublist (F'.take (i + 1)) := by
        rw [List.take_add_one, he]
        exact List.Sublist.append sb (List.Sublist.refl _)
      refine ⟨rfl, _, rfl, _, rfl, p, R, a, b, c, rfl, ep, by omega, by omega, fun r a' b' c' r0 r1 => ⟨rfl, _, rfl, ?_⟩⟩
      have exb := exa.trans (Ex.turn (p := p) (a := a') (b := b') (c := c'))
      have hDb : upd Hb p (potO a' b' c') D = some (.lst (refF F2)) := by rw [upd_ne nDp]; exact hDa
      refine ite2 (fun _ => ?_) (fun _ => ⟨exb, F2, hDb, sb1⟩)
      refine ⟨_, rfl, _, hDb, ?_, exb.put hD nDp, F2 ++ [e], by rw [upd_same, refF_snoc], sb2⟩
      have h3 := sb.length_le
      rw [List.length_take] at h3
      rw [List.length_map]
      omega
    obtain ⟨exa, F2, hD2, sb⟩ := e
    have lr : (refF F').length = F'.length := List.length_map ..
    rw [lr, List.take_length] at sb
    have ex10 : Ex p H H14 := (ex8.trans ex9).trans exa
    have hG9 := (ex9.trans exa).dK ex8.pot hG8
    have hB9 := (ex9.trans exa).dK ex8.pot hB8
    have TF2 : TupF H14 F2 := fun e he => exa.tup ex9.pot (TF9 e (sb.subset he))
    have l2' : F2.length ≤ 25 := by
      have := sb.length_le
      omega
    have nd2' : (F2.map Prod.fst).Nodup := by
      have h1 : (F'.map Prod.fst).Nodup := by
        refine (pF.map Prod.fst).nodup_iff.mpr ?_
        have := SP.nd
        rw [List.map_map] at this
        exact this
      exact h1.sublist (sb.map _)
    have in2 : ∀ e ∈ F2, e.1.1 ∈ zs ∧ e.1.2 ∈ zs ∧ e.1.1 ≠ e.1.2 := fun e he => by
      have q := (SP.ks (e.1, 1) (List.mem_map.mpr ⟨e, pF.mem_iff.mp (sb.subset he), rfl⟩)).2
      exact ⟨q.1, q.2.1, q.2.2.1⟩
    clear ex8 ex9 exa hG8 hB8 hL8 TF SP hperm hq0 h0 TF9 hD
    -- the swaps
    refine ⟨_, rfl, _, rfl, _, rfl, D, rfl, ⟨_, SqL.of hD2⟩, fun D3 hD3 => ?_⟩
    have nD3 : D3 ≠ p := by obtain ⟨_, _, _, e⟩ := ex10.pot; exact (ne_of_none e hD3).symm
    have nDD : D ≠ D3 := ne_of_none hD2 hD3
    refine lc_it walk_list (fun i H' => Ex p H14 H' ∧ ∃ (ts : List Addr) (ps : List SP2), H' D3 = some (.lst (ts.map V.ref)) ∧ ts.length = i ∧ PairsT H' ts (dtF ps) ∧ ps.map Prod.fst = (F2.take i).map Prod.fst ∧ ∀ x ∈ ps, 1 ≤ x.2 ∧ x.2 ≤ 18) ⟨(Ex.refl ex10.pot).new hD3, [], [], upd_same, rfl, .nil, by rw [List.take_zero]; rfl, fun _ h => (nomatch h)⟩ (fun i H' _ e => e.1.seqL (SqL.of hD2) nDp) (fun i y Ha Hb hi e hy => ?_) (fun H15 e => ?_)
    · obtain ⟨rfl, hy⟩ := hy
      obtain ⟨exa, ts, ps, hDa, lt, PT, pk, pb⟩ := e
      rw [List.getElem?_map] at hy
      obtain ⟨e, he, rfl⟩ := Option.map_eq_some_iff.mp hy
      obtain ⟨a, b, c, ep⟩ := exa.pot
      refine ⟨rfl, yes_q (iteT ⟨_, rfl, _, rfl, _, rfl, p, W, a, b, c, rfl, ep, by omega, by omega, fun r a' b' c' r0 r1 => ⟨_, _, rfl, rfl, two, fun T hT => ⟨ts.map V.ref, ?_, ?_, ?_, ts ++ [T], ps ++ [(e.1, 1 + r)], ?_, ?_, ?_, ?_, ?_⟩⟩⟩)⟩
      · have : upd Hb p (potO a' b' c') D3 = some (.lst (ts.map V.ref)) := by rw [upd_ne nD3]; exact hDa
        rw [upd_ne (ne_of_none this hT)]; exact this
      · have h3 := (List.getElem?_eq_some_iff.mp he).1
        rw [List.length_map]
        omega
      · exact ((exa.trans (Ex.turn (p := p) (a := a') (b := b') (c := c'))).new hT).put hD3 nD3
      · rw [upd_same, List.map_append]; rfl
      · rw [List.length_append, lt]; rfl
      · have t1 : TK Hb (upd Hb p (potO a' b' c')) := (Ex.turn (p := p) (a := a') (b := b') (c := c')).tk exa.pot
        have t2 : TK (upd Hb p (potO a' b' c')) (upd (upd Hb p (potO a' b' c')) T (.tup [.ref e.2, .int (1 + r)])) := fun b xs q => same_new hT _ _ q
        have hDb : upd (upd Hb p (potO a' b' c')) T (.tup [.ref e.2, .int (1 + r)]) D3 = some (.lst (ts.map V.ref)) := by
          have : upd Hb p (potO a' b' c') D3 = some (.lst (ts.map V.ref)) := by rw [upd_ne nD3]; exact hDa
          rw [upd_ne (ne_of_none this hT)]; exact this
        have t3 := TK.put (ys := ts.map V.ref ++ [V.ref T]) hDb
        have hT3 : upd (upd (upd Hb p (potO a' b' c')) T (.tup [.ref e.2, .int (1 + r)])) D3 (.lst (ts.map V.ref ++ [V.ref T])) T = some (.tup [.ref e.2, .int (1 + r)]) := t3 _ _ upd_same
        have he3 := ((t1.trans t2).trans t3) _ _ (exa.tup ex10.pot (TF2 e (List.mem_of_getElem? he)))
        have := (PT.tk ((t1.trans t2).trans t3)).snoc (k := [.inr e.1.1, .inr e.1.2]) hT3 he3
        unfold dtF at this ⊢
        rw [List.map_append]
        exact this
      · rw [List.map_append, pk, List.take_add_one, he, List.map_append]; rfl
      · intro x hx
        rcases List.mem_append.mp hx with hx | hx
        · exact pb x hx
        · rw [List.mem_singleton.mp hx]
          show 1 ≤ 1 + r ∧ 1 + r ≤ 18
          omega
    obtain ⟨exa, ts, ps, hD5, lt, PT, pk, pb⟩ := e
    have lr2 : (refF F2).length = F2.length := List.length_map ..
    rw [lr2, List.take_length] at pk
    have ndp : (ps.map Prod.fst).Nodup := by rw [pk]; exact nd2'
    refine ⟨D3, ts, dtF ps, rfl, hD5, PT, dtF_nodup ndp, fun S hS => ⟨three, fun t ht => ?_⟩⟩
    have hG10 := exa.dK ex10.pot hG9
    have hB10 := exa.dK ex10.pot hB9
    have s1 := same_new (o := .dT (dtF ps)) hS
    have s2 := s1.trans (same_new (o := .lst [.ref GA, .ref GB, .ref S]) ht)
    refine hQ t zs1 zs2 g o ps _ ((ex10.trans exa).same s2) ⟨GA, GB, S, upd_same, s2 _ _ hG10, s2 _ _ hB10, same_new ht _ _ upd_same⟩ (PrN.of_draws ok hz1 hz2 (fun z hz => ⟨(gb z hz).1, Int.le_trans (gb z hz).2 bM.2⟩) ob ndp fun x hx => ?_)
    have hk : x.1 ∈ F2.map Prod.fst := by rw [← pk]; exact List.mem_map.mpr ⟨x, hx, rfl⟩
    obtain ⟨e, he, ee⟩ := List.mem_map.mp hk
    have q := in2 e he
    rw [ee] at q
    exact ⟨q.1, q.2.1, q.2.2, (pb x hx).1, (pb x hx).2⟩
end
end MN
/-! _law_copied -/
namespace MN
open PySem PySem.Spec PyProof.Rows L2
/-- dict(a list of pairs), the context's K by its name (for comprehensions' blocks) -/
def rDictPK (K : PySem.W.Frag) : List V → Hp → VK → Prop := fun xs H Q => ∃ (a : Addr) (ps : List Addr) (kvs : List (Key × V)), xs = [.ref a] ∧ SqL K H a (ps.map V.ref) ∧ Paired (fun p kv => SqT K H p [kV kv.1, kv.2]) ps kvs ∧ ∀ p, H p = none → Q (.ref p) (upd H p (.dK (mergeK [] kvs)))
theorem call_dictPK {X : Cx} {K : PySem.W.Frag} (hK : X.K = K) (hc : X.calm = true) : CallR X (.type "dict") (rDictPK K) := by
  subst hK
  exact call_dictP hc
section
variable {P : Program} {w : World} {K : PySem.W.Frag} {mg : Str → Option Value} {base : Heap}
def spCopied : Sp := fun vs H Q _ => ∃ t zs zs2 g o ps, vs = [.ref t] ∧ Rec H t zs zs2 g o ps ∧ PrN zs zs2 g o ps ∧ ∀ t' A B S H', H t' = none → H A = none → H B = none → H S = none → A ≠ B → A ≠ S → B ≠ S → Same H H' →
  H' t' = some (.lst [.ref A, .ref B, .ref S]) → H' A = some (.dK (dkF zs g)) → H' B = some (.dK (dkF zs2 o)) → H' S = some (.dT (dtF ps)) → Q (.ref t') H'
end
end MN
/-! _law_with: another price, or a swap price less -/
namespace MN
open PySem PySem.Spec PyProof.Rows L2
/-- a record, and prices that stand as it says -/
def StK (Cp : Addr) (H : Hp) (x t : Addr) (zs zs2 : List Str) (g o : Str → Int) (ps : List SP2) : Prop := Rec H t zs zs2 g o ps ∧ PrS Cp H x zs g o ps ∧ PrN zs zs2 g o ps
theorem StK.ex {Cp p : Addr} {H H' : Hp} {x t : Addr} {zs zs2 : List Str} {g o : Str → Int} {ps : List SP2} (ex : Ex p H H') (hp : Pot H p) (h : StK Cp H x t zs zs2 g o ps) : StK Cp H' x t zs zs2 g o ps := ⟨h.1.ex ex hp, h.2.1.ex ex hp, h.2.2⟩
theorem StK.same {Cp : Addr} {H H' : Hp} {x t : Addr} {zs zs2 : List Str} {g o : Str → Int} {ps : List SP2} (e : Same H H') (h : StK Cp H x t zs zs2 g o ps) : StK Cp H' x t zs zs2 g o ps := ⟨h.1.same e, h.2.1.same e, h.2.2⟩
theorem PrS.slt {Cp : Addr} {H : Hp} {x : Addr} {zs : List Str} {g o : Str → Int} {ps : List SP2} (h : PrS Cp H x zs g o ps) : ∃ dx ws, SlX.Slt H x Cp dx ws := by
  obtain ⟨dx, _, _, ⟨_, _, _, ws, hs, _⟩, _⟩ := h
  exact ⟨dx, ws, .inr hs⟩
def spDeed (Cp : Addr) : Sp := fun vs H Q _ => ∃ p x t zs zs2 g o ps, vs = [.ref p, .ref x, .ref t] ∧ Pot H p ∧ StK Cp H x t zs zs2 g o ps ∧
  ∀ d x' t' zs' zs2' g' o' ps' H', Ex p H H' → H' d = some (.lst [.ref x', .ref t']) → StK Cp H' x' t' zs' zs2' g' o' ps' → Q (.ref d) H'
theorem dkF_keysS (zs : List Str) (g : Str → Int) : (dkF zs g).map (·.1) = zs.map Sum.inr := dkF_keys zs g
section
variable {P : Program} {w : World} {K : PySem.W.Frag} {mg : Str → Option Value} {base : Heap} {Cp : Addr}
structure GlP (mg : Str → Option Value) : Prop where
  S : GlC mg "SWAP" (.str "swap")
  P : GlC mg "PUT" (.str "put")
  O : GlC mg "OUT" (.str "out")
  M : GlC mg "MAX_PRICE" (.int 9)
  W : GlC mg "MAX_SWAP" (.int 18)
  G : GlC mg "GREATEST" (.int big)
theorem r_pwith (PD : PrD K mg Cp) (B : Blt mg) (GL : GlP mg) (c_kic : Cal P w K mg base 3 "is_kind_of_change" (spKic K)) (c_is_price : Cal P w K mg base 2 "is_price" (spIsPrice K)) (c_are_prices2 : Cal P w K mg base 3 "are_prices" spAreP2) : ∃ g, Meth K Cp "with_price" g ∧ FnR P w K mg base CX0 6 g (fun vs H Q E => spWith02 K Cp (vs ++ []) H Q E) := by
  obtain ⟨g, fd, h1, F⟩ := PD.wp
  have b := FunD.bindsN (ps := ["self", "change", "price"]) F fun _ _ _ _ _ _ us hl => match us, hl with | [_, _, _], _ => rfl
  exact ⟨g, h1, (f_pwith PD F B GL.S GL.P GL.O GL.M GL.W c_kic c_is_price c_are_prices2).raw b .nil⟩
end
end MN
/-! a table from a list of signs -/
namespace MN
open PySem PySem.Spec PyProof.Rows L2
section
variable {K : PySem.W.Frag} {l D : Addr} {H1 : Hp} {σ : L2.St} {vs : List Nat} {te : TE} {j : Nat} {Qd : Hp → Prop} {us : List Str}
/-- [(z, g z) for z in signs] -/
theorem lc_tabK (hl : SqL K H1 l (strsV us)) (hz : us.length ≤ 1000) (g : Str → Int) (hD : H1 D = none) (hw : ∀ x ∈ strsV us, wipe ((wipe σ vs).set j (some x)) vs = wipe σ vs)
    (he : ∀ z ∈ us, ∀ H2, Same H1 H2 → ∀ Q : VK, (∀ T, H2 T = none → Q (.ref T) (upd H2 T (.tup [.str z, .int (g z)]))) → te ((wipe σ vs).set j (some (.str z))) H2 Q)
    (hd : ∀ H' ts, Same H1 H' → H' D = some (.lst (ts.map V.ref)) → Paired (fun t (kv : Key × V) => SqT K H' t [kV kv.1, kv.2]) ts (dkF us g) → Qd H') : LcGoal (Itl K l) (gName j) tYes te vs σ H1 D Qd := by
  have ll : (strsV us).length = us.length := by simp [strsV]
  refine lc_newF walk_list (strsV us) rfl (by rw [ll]; exact hz) (fun _ _ _ _ _ y => y) hD (fun H' e => Same.seq e hl) hw (fun k v H' => ∃ z, us[k]? = some z ∧ H' v = some (.tup [.str z, .int (g z)])) (fun k v _ _ up n r => ?_) (fun _ _ _ r => ?_) (fun i y hy H2 e2 _ Q' q' => ?_) (fun H2 qs e2 u2 nq nD lq r2 => ?_)
  · obtain ⟨z, h1, h2⟩ := r
    exact ⟨z, h1, up _ _ n h2⟩
  · obtain ⟨z, _, h2⟩ := r
    exact ⟨_, h2⟩
  · have hy' : (us.map V.str)[i]? = some y := hy
    rw [List.getElem?_map] at hy'
    obtain ⟨z, hz, rfl⟩ := Option.map_eq_some_iff.mp hy'
    exact he z (List.mem_of_getElem? hz) H2 e2 Q' fun T hT => q' T _ hT (same_new hT) ⟨z, hz, upd_same⟩
  · refine hd H2 qs e2 u2 (paired_of (by rw [lq, ll]; simp [dkF]) fun k t kv ht hkv => ?_)
    obtain ⟨z, h1, h2⟩ := r2 k t ht
    unfold dkF at hkv
    rw [List.getElem?_map, h1] at hkv
    cases hkv
    exact .inl (.inl h2)
end
end MN
/-! _law_times -/
namespace MN
open PySem PySem.Spec PyProof.Rows L2
theorem PE.imp2 {X : Cx} {e : Expr} {t t' : TE} (h : PE X e t) (i : ∀ σ H Q, t' σ H Q → t σ H Q) : PE X e t' := ⟨fun pins s σ H Q I q => h.run pins s σ H Q I (i _ _ _ q)⟩
section
variable {X : Cx} {CX : CXT} {k : Nat} {g C : Addr} {fd : FuncData} {ps : List Str} {sp : Sp} {E : L2.St → XK} {m : Str} {pos apos : Pos} {e o : Expr} {es : List Expr} {ta : TE} {t : TA} {pl : Sem Bool}
/-- o.m(e, ..) that may raise, o with slots -/
theorem pe_methSlS (he : PE X o ta) (c : SlX.SCls X.K C) (hm : Meth X.K C m g) (F : FnOk X.prog X.w X.K X.mg X.base CX k g fd ps sp) (hb : Binds X.K fd ps []) (hr : Room k X.A) (hx : ∀ σ, PassesAt CX X σ (E σ)) (ha : PA X (e :: es) t)
    (hst : starEach (e :: es) X.env = (false, eval e X.env) :: starEach es X.env := by rfl) (hpl : (backTo pos (starEach es X.env)).any (·.1) = false := by rfl)
    (ht : eval (.Call (.Attribute o m apos) (e :: es) [] pos) X.env = (do
      let ov ← eval o X.env
      standAt apos.atName
      let (f, first) ← holding [ov] (getMethod ov m pl)
      callWith pos f first (backTo pos (starEach (e :: es) X.env)) (backToKw pos (keywordEach [] X.env))) := by rfl) :
    PE X (.Call (.Attribute o m apos) (e :: es) [] pos) (fun σ H Q => ta σ H fun x H1 => ∃ a dx vs, x = .ref a ∧ SlX.Slt H1 a C dx vs ∧ t σ H1 fun ws H2 => sp (x :: ws) H2 Q (E σ)) := by
  refine ⟨fun pins s σ H Q I h => ?_⟩
  refine PySem.W.methodCall_KW (pl := pl) (thn (he.run pins s σ H _ I h) fun u s1 ⟨x, H1, I1, rx, a, dx, vs, ex, hsl, q⟩ => ?_) ht
  subst ex
  obtain rfl : u = Value.ref a := rx
  refine SlX.getmethsl_ok I1 hsl c hm ?_
  refine PySem.W.callWith_K (first := [.ref a]) (h₀ := X.base) I.ok.mod.kin hm.kp (thn (ha.run pos pins s1 σ H1 _ I1 q) fun us s2 ⟨ws, H2, I2, r, q2⟩ => ⟨I2.kIn, ?_⟩) hst hpl
  exact run_fnS (us := .ref a :: us) (vs := .ref a :: ws) F hr hb (hx σ) I2 (.cons rfl r) q2
end
/-- whether three greatest prices are let -/
def tLet (i : Nat) : TE := fun σ H Q => ∃ gr m0 m1 m2, σ[i]? = some (some (.ref gr)) ∧ H gr = some (.lst [.int m0, .int m1, .int m2]) ∧ Q (.bl (decide (m0 ≤ 9) && (decide (m1 ≤ 9) && decide (m2 ≤ 18)))) H
theorem imp_let {K : PySem.W.Frag} (i : Nat) (σ : L2.St) (H : Hp) (Q : VK) (h : tLet i σ H Q) : tAndV (tOp (rI0 fun i j => .bl (decide (i ≤ j))) (tOp (rIxL K) (tVar i) (tC (.int 0))) (tC (.int 9))) (tAndV (tOp (rI0 fun i j => .bl (decide (i ≤ j))) (tOp (rIxL K) (tVar i) (tC (.int 1))) (tC (.int 9))) (tOp (rI0 fun i j => .bl (decide (i ≤ j))) (tOp (rIxL K) (tVar i) (tC (.int 2))) (tC (.int 18)))) σ H Q := by
  obtain ⟨gr, m0, m1, m2, hi, hg, q⟩ := h
  refine ⟨_, hi, gr, _, _, .int m0, rfl, rfl, SqL.of hg, rfl, _, _, rfl, rfl, _, rfl, ?_⟩
  by_cases h0 : m0 ≤ 9
  · refine iteDT h0 ⟨_, hi, gr, _, _, .int m1, rfl, rfl, SqL.of hg, rfl, _, _, rfl, rfl, _, rfl, ?_⟩
    by_cases h1 : m1 ≤ 9
    · refine iteDT h1 ⟨_, hi, gr, _, _, .int m2, rfl, rfl, SqL.of hg, rfl, _, _, rfl, rfl, ?_⟩
      rw [decide_eq_true h0, decide_eq_true h1] at q
      exact q
    · refine iteDF h1 ?_
      rw [decide_eq_true h0, decide_eq_false h1] at q
      exact q
  · refine iteDF h0 ?_
    rw [decide_eq_false h0] at q
    exact q
/-- the greatest of some numbers and 0 -/
def MaxOf (m : Int) (l : List Int) : Prop := m ∈ (0 : Int) :: l ∧ ∀ y ∈ (0 : Int) :: l, y ≤ m
theorem MaxOf.le {m : Int} {l : List Int} (h : MaxOf m l) {b : Int} (hb : 0 ≤ b) : decide (m ≤ b) = l.all fun n => decide (n ≤ b) := by
  by_cases q : m ≤ b
  · rw [decide_eq_true q]
    exact (List.all_eq_true.mpr fun n hn => decide_eq_true (Int.le_trans (h.2 n (List.mem_cons_of_mem _ hn)) q)).symm
  · rw [decide_eq_false q]
    refine (List.all_eq_false.mpr ⟨m, ?_, by simpa using q⟩).symm
    rcases List.mem_cons.mp h.1 with e | e
    · omega
    · exact e
theorem fits_max {zs zs2 : List Str} {g o : Str → Int} {ps : List SP2} {m0 m1 m2 : Int} (h0 : MaxOf m0 (zs.map g)) (h1 : MaxOf m1 (zs2.map o)) (h2 : MaxOf m2 (ps.map Prod.snd)) : (decide (m0 ≤ 9) && (decide (m1 ≤ 9) && decide (m2 ≤ 18))) = fitsP zs zs2 g o ps := by
  rw [h0.le (by decide), h1.le (by decide), h2.le (by decide)]
  unfold fitsP
  rw [List.all_append, ← Bool.and_assoc]
  congr 1
  rw [List.all_map]
  rfl
section
variable {P : Program} {w : World} {K : PySem.W.Frag} {mg : Str → Option Value} {base : Heap} {Cp IO : Addr}
def spTimL (Cp : Addr) : Sp := fun vs H Q _ => ∃ p x t zs zs2 g o ps, vs = [.ref p, .ref x, .ref t] ∧ Pot H p ∧ StK Cp H x t zs zs2 g o ps ∧ (∀ H', Ex p H H' → Q .non H') ∧
  ∀ d x' t' zs' zs2' g' o' ps' H', Ex p H H' → H' d = some (.lst [.ref x', .ref t']) → StK Cp H' x' t' zs' zs2' g' o' ps' → Q (.ref d) H'
end
end MN
/-! what is told, as data; bounds of its shown text -/
namespace MN
open PySem PySem.Spec PyProof.Rows L2
/-- data of small depth and weight, without dicts -/
structure Sm (n w : Nat) (d : PyData) : Prop where
  dp : d.depth ≤ n
  wt : d.weight ≤ w
  sh : d.showable = true
  nd : d.hasDict = false
  cl : d.canLay0 = true
  ss : d.intsShort 13 = true
theorem Sm.mono {n w n' w' : Nat} {d : PyData} (h : Sm n w d) (hn : n ≤ n') (hw : w ≤ w') : Sm n' w' d := { h with dp := Nat.le_trans h.dp hn, wt := Nat.le_trans h.wt hw }
theorem sm_all {n w : Nat} {l : List PyData} (h : ∀ d ∈ l, Sm n w d) : PyData.depthAll l ≤ n ∧ PyData.weightAll l ≤ l.length * (w + 1) ∧ PyData.showableAll l = true ∧ PyData.hasDictAll l = false ∧ PyData.canLayAll0 l = true ∧ PyData.intsShortAll 13 l = true := by
  induction l with
  | nil => exact ⟨Nat.zero_le _, Nat.zero_le _, rfl, rfl, rfl, rfl⟩
  | cons a l ih =>
    obtain ⟨i1, i2, i3, i4, i5, i6⟩ := ih fun d hd => h d (List.mem_cons_of_mem _ hd)
    have k := h a List.mem_cons_self
    refine ⟨?_, ?_, ?_, ?_, ?_, ?_⟩
    · rw [PyData.depthAll]; have := k.dp; omega
    · rw [PyData.weightAll, List.length_cons, Nat.add_mul]; have := k.wt; omega
    · rw [PyData.showableAll, k.sh, i3]; rfl
    · rw [PyData.hasDictAll, k.nd, i4]; rfl
    · rw [PyData.canLayAll0, k.cl, i5]; rfl
    · rw [PyData.intsShortAll, k.ss, i6]; rfl
theorem Sm.list {n w : Nat} {l : List PyData} (h : ∀ d ∈ l, Sm n w d) : Sm (n + 1) (l.length * (w + 1)) (.list l) := by
  obtain ⟨i1, i2, i3, i4, i5, i6⟩ := sm_all h
  exact ⟨by rw [PyData.depth]; omega, by rw [PyData.weight]; exact i2, by rw [PyData.showable]; exact i3, by rw [PyData.hasDict]; exact i4, by rw [PyData.canLay0]; exact i5, by rw [PyData.intsShort]; exact i6⟩
theorem Sm.tuple {n w : Nat} {l : List PyData} (h : ∀ d ∈ l, Sm n w d) : Sm (n + 1) (l.length * (w + 1)) (.tuple l) := by
  obtain ⟨i1, i2, i3, i4, i5, i6⟩ := sm_all h
  exact ⟨by rw [PyData.depth]; omega, by rw [PyData.weight]; exact i2, by rw [PyData.showable]; exact i3, by rw [PyData.hasDict]; exact i4, by rw [PyData.canLay0]; exact i5, by rw [PyData.intsShort]; exact i6⟩
theorem Sm.int {k : Int} (h0 : 0 ≤ k) (h1 : k ≤ 1000) : Sm 0 20 (.int k) := by
  have lg : k.natAbs.log2 < 11 := by
    by_cases z : k.natAbs = 0
    · rw [z]; decide
    · rw [Nat.log2_lt z]
      have : (2 : Nat) ^ 11 = 2048 := by decide
      omega
  refine ⟨by rw [PyData.depth]; exact Nat.le_refl _, ?_, ?_, rfl, rfl, ?_⟩
  · rw [PyData.weight]
    split <;> omega
  · have := PyData.showableAll_ints [k] fun m hm => by rw [show m = k from by simpa using hm]; omega
    rw [List.map_cons, PyData.showableAll, Bool.and_eq_true] at this
    exact this.1
  · have := PyData.intsShortAll_ints [k] fun m hm => by
      rw [show m = k from by simpa using hm]
      have : (10 : Nat) ^ 12 = 1000000000000 := by decide
      omega
    rw [List.map_cons, PyData.intsShortAll, Bool.and_eq_true] at this
    exact this.1
theorem Sm.bool (b : Bool) : Sm 0 0 (.bool b) := ⟨by rw [PyData.depth]; exact Nat.le_refl _, by rw [PyData.weight]; exact Nat.le_refl _, rfl, rfl, rfl, rfl⟩
theorem Sm.str {z : Str} {L : Nat} (hl : z.length ≤ L) (hc : (PyData.str z).canLay0 = true) : Sm 0 L (.str z) := ⟨by rw [PyData.depth]; exact Nat.le_refl _, by rw [PyData.weight]; exact hl, rfl, rfl, hc, rfl⟩
theorem Sm.sign {z : Str} (h : ∃ c ∈ ("abcde" : Str).cps.toList, z = ⟨#[c]⟩) : Sm 0 1 (.str z) := by
  refine .str (by rw [len_one h]; exact Nat.le_refl _) ?_
  obtain ⟨c, hc, rfl⟩ := h
  have hc' : c = 97 ∨ c = 98 ∨ c = 99 ∨ c = 100 ∨ c = 101 := by
    have e : ("abcde" : Str).cps.toList = [97, 98, 99, 100, 101] := by decide +kernel
    rw [e] at hc
    simpa using hc
  rcases hc' with rfl | rfl | rfl | rfl | rfl <;> decide +kernel
theorem Sm.shows {n w : Nat} {l : List PyData} (h : Sm n w (.list l)) (hn : n ≤ 60) (hw : w ≤ 2 ^ 20) : isDisplay (.list l) = true ∧ (PyData.list l).showable = true ∧ (PyData.list l).hasDict = false ∧ (PyData.list l).depth ≤ 60 ∧ (PyData.list l).shown.length ≤ sizeLine := by
  refine ⟨rfl, h.sh, h.nd, Nat.le_trans h.dp hn, PyData.shown_fits_of_layable0 (B := 13) (by decide) (by decide) ?_ h.ss⟩
  unfold PyData.layable0
  rw [h.cl, Bool.true_and, Bool.and_eq_true]
  exact ⟨decide_eq_true (Nat.le_trans h.dp (by omega)), decide_eq_true (Nat.le_trans h.wt hw)⟩
/-- pairs of a sign and a number -/
def dPair (g : Str → Int) (z : Str) : PyData := .tuple [.str z, .int (g z)]
def dSwap (e : (Str × Str) × Int) : PyData := .tuple [.tuple [.str e.1.1, .str e.1.2], .int e.2]
def dTold1 (ys : List Str) (g o : Str → Int) (qs : List ((Str × Str) × Int)) : List PyData := [.tuple (ys.map PyData.str), .list (ys.map (dPair g)), .list (ys.map (dPair o)), .list (qs.map dSwap)]
theorem told1_shows {ys : List Str} {g o : Str → Int} {qs : List ((Str × Str) × Int)} (N : PrN ys ys g o qs) : isDisplay (.list (dTold1 ys g o qs)) = true ∧ (PyData.list (dTold1 ys g o qs)).showable = true ∧ (PyData.list (dTold1 ys g o qs)).hasDict = false ∧ (PyData.list (dTold1 ys g o qs)).depth ≤ 60 ∧ (PyData.list (dTold1 ys g o qs)).shown.length ≤ sizeLine := by
  have l5 := N.le
  have l100 := N.sl
  have pr : ∀ {f : Str → Int}, (∀ z ∈ ys, 1 ≤ f z ∧ f z ≤ 9) → Sm 2 300 (.list (ys.map (dPair f))) := fun {f} hf => by
    have h1 : ∀ d ∈ ys.map (dPair f), Sm 1 42 d := fun d hd => by
      obtain ⟨z, hz, rfl⟩ := List.mem_map.mp hd
      have b := hf z hz
      refine (Sm.tuple (n := 0) (w := 20) fun e he => ?_).mono (by omega) (by simp)
      rcases List.mem_cons.mp he with rfl | he
      · exact (Sm.sign (N.sg z hz)).mono (by omega) (by omega)
      · rw [List.mem_singleton.mp he]
        exact .int (by omega) (by omega)
    refine (Sm.list h1).mono (by omega) ?_
    rw [List.length_map]
    have := Nat.mul_le_mul_right 43 l5
    omega
  have sg : Sm 2 300 (.tuple (ys.map PyData.str)) := by
    refine (Sm.tuple (n := 0) (w := 1) fun d hd => ?_).mono (by omega) ?_
    · obtain ⟨z, hz, rfl⟩ := List.mem_map.mp hd
      exact .sign (N.sg z hz)
    · rw [List.length_map]; omega
  have sw : Sm 3 6000 (.list (qs.map dSwap)) := by
    have h1 : ∀ d ∈ qs.map dSwap, Sm 2 50 d := fun d hd => by
      obtain ⟨e, he, rfl⟩ := List.mem_map.mp hd
      obtain ⟨a, b, _, c1, c2⟩ := N.sp e he
      refine (Sm.tuple (n := 1) (w := 20) fun f hf => ?_).mono (by omega) (by simp)
      rcases List.mem_cons.mp hf with rfl | hf
      · refine (Sm.tuple (n := 0) (w := 1) fun f hf => ?_).mono (by omega) (by simp)
        rcases List.mem_cons.mp hf with rfl | hf
        · exact .sign (N.sg _ a)
        · rw [List.mem_singleton.mp hf]
          exact .sign (N.sg _ b)
      · rw [List.mem_singleton.mp hf]
        exact (Sm.int (by omega) (by omega)).mono (by omega) (by omega)
    refine (Sm.list h1).mono (by omega) ?_
    rw [List.length_map]
    have := Nat.mul_le_mul_right 51 l100
    omega
  have top : Sm 4 24004 (.list (dTold1 ys g o qs)) := by
    refine (Sm.list (n := 3) (w := 6000) fun d hd => ?_).mono (by omega) (by simp [dTold1])
    unfold dTold1 at hd
    rcases List.mem_cons.mp hd with rfl | hd
    · exact sg.mono (by omega) (by omega)
    rcases List.mem_cons.mp hd with rfl | hd
    · exact (pr N.pg).mono (by omega) (by omega)
    rcases List.mem_cons.mp hd with rfl | hd
    · exact (pr N.po).mono (by omega) (by omega)
    · rw [List.mem_singleton.mp hd]
      exact sw
  exact top.shows (by omega) (by decide)
section
variable {K : PySem.W.Frag} {H : Hp}
theorem dpPairs {g : Str → Int} : ∀ {ts : List Addr} {ys : List Str}, Paired (fun (t : Addr) (z : Str) => H t = some (.tup [.str z, .int (g z)])) ts ys → DpAll K H (ts.map V.ref) (ys.map (dPair g))
  | _, _, .nil => .nil
  | _, _, .cons h r => .cons (.tup (.inl (.inl h)) (.cons (.str _) (.cons (.int _) .nil))) (dpPairs r)
theorem dpSwaps : ∀ {ts : List Addr} {qs : List ((Str × Str) × Int)}, Paired (fun (t : Addr) (e : (Str × Str) × Int) => ∃ q, H t = some (.tup [.ref q, .int e.2]) ∧ H q = some (.tup [.str e.1.1, .str e.1.2])) ts qs → DpAll K H (ts.map V.ref) (qs.map dSwap)
  | _, _, .nil => .nil
  | _, _, .cons ⟨q, h1, h2⟩ r => .cons (.tup (.inl (.inl h1)) (.cons (.tup (.inl (.inl h2)) (.cons (.str _) (.cons (.str _) .nil))) (.cons (.int _) .nil))) (dpSwaps r)
theorem paired_dkF {g : Str → Int} : ∀ {ts : List Addr} {ys : List Str}, Paired (fun (t : Addr) (q : Key × V) => H t = some (.tup [kV q.1, q.2])) ts (dkF ys g) → Paired (fun (t : Addr) (z : Str) => H t = some (.tup [.str z, .int (g z)])) ts ys
  | _, [], h => by cases h; exact .nil
  | _, z :: ys, h => by
    cases h with
    | cons a r => exact .cons a (paired_dkF r)
theorem paired_dtF : ∀ {ts : List Addr} {qs : List ((Str × Str) × Int)}, PairsT H ts (dtF qs) → Paired (fun (t : Addr) (e : (Str × Str) × Int) => ∃ q, H t = some (.tup [.ref q, .int e.2]) ∧ H q = some (.tup [.str e.1.1, .str e.1.2])) ts qs
  | _, [], h => by cases h; exact .nil
  | _, e :: qs, h => by
    cases h with
    | cons a r => exact .cons a (paired_dtF r)
end
/-- two least of the same numbers are one -/
theorem least_one {l l' : List Int} (h : ∀ n, n ∈ l ↔ n ∈ l') {m m' : Int} (hm : m ∈ l) (hle : ∀ y ∈ l, m ≤ y) (hm' : m' ∈ l') (hle' : ∀ y ∈ l', m' ≤ y) : m = m' :=
  Int.le_antisymm (hle _ ((h _).mpr hm')) (hle' _ ((h _).mp hm))
end MN
/-! what is told, in the heap -/
namespace MN
open PySem PySem.Spec PyProof.Rows L2
/-- what is told first, or due: the tuple of the signs, three lists of pairs -/
structure TdAt (K : PySem.W.Frag) (H : Hp) (ys : List Str) (g o : Str → Int) (qs : List SP2) (d1 p1 p2 p3 : Addr) (ts1 ts2 ts3 : List Addr) : Prop where
  sg : SqT K H d1 (strsV ys)
  l1 : H p1 = some (.lst (ts1.map V.ref))
  k1 : Paired (fun (t : Addr) (z : Str) => H t = some (.tup [.str z, .int (g z)])) ts1 ys
  l2 : H p2 = some (.lst (ts2.map V.ref))
  k2 : Paired (fun (t : Addr) (z : Str) => H t = some (.tup [.str z, .int (o z)])) ts2 ys
  l3 : H p3 = some (.lst (ts3.map V.ref))
  k3 : Paired (fun (t : Addr) (e : SP2) => ∃ q, H t = some (.tup [.ref q, .int e.2]) ∧ H q = some (.tup [.str e.1.1, .str e.1.2])) ts3 qs
theorem pair_same {H H' : Hp} (e : Same H H') {f : Str → Int} {ts : List Addr} {ys : List Str} (h : Paired (fun (t : Addr) (z : Str) => H t = some (.tup [.str z, .int (f z)])) ts ys) : Paired (fun (t : Addr) (z : Str) => H' t = some (.tup [.str z, .int (f z)])) ts ys := Paired.mapP h fun _ _ a => e _ _ a
theorem swap_same {H H' : Hp} (e : Same H H') {ts : List Addr} {qs : List SP2} (h : Paired (fun (t : Addr) (e : SP2) => ∃ q, H t = some (.tup [.ref q, .int e.2]) ∧ H q = some (.tup [.str e.1.1, .str e.1.2])) ts qs) : Paired (fun (t : Addr) (e : SP2) => ∃ q, H' t = some (.tup [.ref q, .int e.2]) ∧ H' q = some (.tup [.str e.1.1, .str e.1.2])) ts qs := Paired.mapP h fun _ _ a => a.imp fun _ b => ⟨e _ _ b.1, e _ _ b.2⟩
theorem TdAt.dp {K : PySem.W.Frag} {H : Hp} {ys : List Str} {g o : Str → Int} {qs : List SP2} {d1 p1 p2 p3 : Addr} {ts1 ts2 ts3 : List Addr} (h : TdAt K H ys g o qs d1 p1 p2 p3 ts1 ts2 ts3) {T : Addr} (hT : H T = some (.lst [.ref d1, .ref p1, .ref p2, .ref p3])) : Dp K H (.ref T) (.list (dTold1 ys g o qs)) :=
  .lst (SqL.of hT) (.cons (.tup h.sg (dp_strs ys)) (.cons (.lst (SqL.of h.l1) (dpPairs h.k1)) (.cons (.lst (SqL.of h.l2) (dpPairs h.k2)) (.cons (.lst (SqL.of h.l3) (dpSwaps h.k3)) .nil))))
theorem TdAt.same {K : PySem.W.Frag} {H H' : Hp} {ys : List Str} {g o : Str → Int} {qs : List SP2} {d1 p1 p2 p3 : Addr} {ts1 ts2 ts3 : List Addr} (h : TdAt K H ys g o qs d1 p1 p2 p3 ts1 ts2 ts3) (e : Same H H') : TdAt K H' ys g o qs d1 p1 p2 p3 ts1 ts2 ts3 :=
  ⟨Same.seqT e h.sg, e _ _ h.l1, pair_same e h.k1, e _ _ h.l2, pair_same e h.k2, e _ _ h.l3, swap_same e h.k3⟩
theorem PrAt.inst {C : Addr} {H : Hp} {x dx : Addr} {ys ys2 : List Str} {g o : Str → Int} {qs : List SP2} (h : PrAt C H x dx ys ys2 g o qs) : ∃ ws, SlX.Slt H x C dx ws := by
  obtain ⟨_, _, _, ws, hs, _⟩ := h
  exact ⟨ws, .inr hs⟩
end MN
/-! xs[::-1] of a list; d.clear() -/
namespace MN
open PySem PySem.Spec PyProof.Rows L2
theorem range_back (n : Nat) : sliceRange ((n : Int) - 1) (-1) (-1) = (List.range n).map fun k => n - 1 - k := by
  have c : (if (-1 : Int) > 0 then (if ((n : Int) - 1) < -1 then (-1 - ((n : Int) - 1) + -1 - 1) / (-1) else 0) else (if ((n : Int) - 1) > -1 then (((n : Int) - 1) - -1 - -1 - 1) / (- -1) else 0)).toNat = n := by
    rw [if_neg (by decide)]
    by_cases h : n = 0
    · subst h; rfl
    · rw [if_pos (by omega), Int.neg_neg, Int.ediv_one]
      omega
  show (List.range (Int.toNat _)).map _ = _
  rw [c]
  refine List.map_congr_left fun k hk => ?_
  have := List.mem_range.mp hk
  omega
theorem pick_revL (xs : Array Value) : slicePick xs none none (some (-1)) = xs.toList.reverse.toArray := by
  have hb : sliceBounds none none (some (-1)) xs.size = ((xs.size : Int) - 1, -1, -1) := rfl
  unfold slicePick
  rw [hb, range_back]
  congr 1
  rw [List.filterMap_map]
  have e : ∀ k ∈ List.range xs.size, ((fun (j : Nat) => xs[j]?) ∘ fun k => xs.size - 1 - k) k = some (xs.toList.reverse.getD k .none) := by
    intro k hk
    have hk : k < xs.size := List.mem_range.mp hk
    have hl : k < xs.toList.reverse.length := by simpa using hk
    show xs[xs.size - 1 - k]? = _
    rw [List.getD_eq_getElem?_getD, List.getElem?_eq_getElem hl, List.getElem_reverse]
    rw [Array.getElem?_eq_getElem (by omega)]
    simp
  rw [filterMap_some e]
  apply List.ext_getElem?
  intro i
  rw [List.getElem?_map]
  by_cases hi : i < xs.size
  · rw [List.getElem?_range hi]
    have hl : i < xs.toList.reverse.length := by simpa using hi
    simp only [Option.map_some]
    rw [List.getD_eq_getElem?_getD, List.getElem?_eq_getElem hl]
    simp
  · rw [List.getElem?_eq_none (by simpa using hi), List.getElem?_eq_none (by simpa using hi)]
    rfl
section
variable {X : Cx}
def tRevL (K : PySem.W.Frag) (te : TE) : TE := fun σ H Q => te σ H fun x H1 => ∃ a xs, x = .ref a ∧ SqL K H1 a xs ∧ ∀ p, H1 p = none → Q (.ref p) (upd H1 p (.lst xs.reverse))
theorem pe_revL {K : PySem.W.Frag} (hK : X.K = K) {e : Expr} {te : TE} {k : Nat} {p1 p2 p3 pos : Pos} (he : PE X e te) : PE X (.Subscript e (.Slice none none (some (.UnaryOp .USub (.Constant (.int 1) k p1) p2)) p3) pos) (tRevL K te) := by
  subst hK
  refine ⟨fun pins s σ H Q I h => ?_⟩
  refine Subscript_ (thn (he.run pins s σ H _ I h) fun v s1 ⟨x, H1, I1, r1, a, xs, ex, hx, q⟩ => ?_)
  subst ex
  cases r1
  have hst : PO X (some (.UnaryOp .USub (.Constant (.int 1) k p1) p2)) (tPart (tUn (rU fun i => .int (-i)) (tC (.int 1)))) := po_some (pe_un un_neg pe_int)
  refine wpAny_Slice (thn (po_none.run pins s1 σ H1 (fun o H2 => o = none ∧ H2 = H1) I1 ⟨rfl, rfl⟩) fun vl s2 ⟨l, H2, I2, pl, el, e2⟩ => ?_)
  cases el
  cases e2
  refine thn (po_none.run pins s2 σ H1 (fun o H3 => o = none ∧ H3 = H1) I2 ⟨rfl, rfl⟩) fun vu s3 ⟨u, H3, I3, pu, eu, e3⟩ => ?_
  cases eu
  cases e3
  refine thn (hst.run pins s3 σ H1 (fun o H4 => o = some (-1) ∧ H4 = H1) I3 ⟨1, rfl, -1, rfl, rfl, rfl⟩) fun vs s4 ⟨o, H4, I4, ps, eo, e4⟩ => ?_
  cases eo
  cases e4
  cases pl
  cases pu
  have I5 : Inv X pins σ H1 { s4 with heap := s4.heap.push { cls := .type "slice", data := .fields #[.none, .none, vs] } } := I4.kept (t' := s4.toks) fun b ob q => Heap.get?_push_of_some _ q
  obtain ⟨its, r, ht, hz⟩ := I5.list hx
  have hlen := r.length
  show wpAny (model X.prog X.w) X.A (subscriptTail e (.Slice none none (some (.UnaryOp .USub (.Constant (.int 1) k p1) p2)) p3) (.ref a) (.ref s4.heap.objs.size)) (EP X pins σ Q) X.xe { s4 with heap := s4.heap.push { cls := .type "slice", data := .fields #[.none, .none, vs] } }
  refine tail_any (ops := [.ref a, .ref s4.heap.objs.size]) ht.isList.typeIs slot_list_getitem.lookup ?_ (by with_unfolding_all rfl)
  refine wpAny_getItem_list_slice ht.isList (Heap.IsSliceOf.new _ .none .none vs) .none .none ps (by decide) ?_ (by rw [List.size_toArray]; omega)
  rw [pick_revL]
  refine ⟨.ref _, _, I5.laid (t' := s4.toks) (o := .lst xs.reverse) (fun b ob q => Heap.get?_push_of_some _ q) (Nat.le_refl _) ?_, rfl, q _ (I5.hok.fresh (Nat.le_refl _))⟩
  exact ⟨by rw [List.length_reverse]; exact hz, _, 0, r.reverse, Heap.get?_push_size _ rfl⟩
def rDClr : V → List V → Hp → VK → Prop := fun x vs H Q => ∃ (a : Addr) (kvs : List (Key × V)), x = .ref a ∧ vs = [] ∧ H a = some (.dK kvs) ∧ Q .non (upd H a (.dK []))
theorem mtd_clr : MtR X "dict.clear" rDClr := by
  intro pins s σ H x vs v us Q I rx rv h
  obtain ⟨a, kvs, ex, ev, e, q⟩ := h
  subst ex
  subst ev
  obtain rfl : v = Value.ref a := rx
  have hus := rv.zero
  subst hus
  exact d_clear I e fun s' I' => ⟨.non, _, I', rfl, q⟩
end
theorem Paired.snoc' {α β : Type} {F : α → β → Prop} {a : α} {b : β} : ∀ {xs : List α} {ys : List β}, Paired F xs ys → F a b → Paired F (xs ++ [a]) (ys ++ [b])
  | _, _, .nil, h => .cons h .nil
  | _, _, .cons x r, h => .cons x (Paired.snoc' r h)
theorem Paired.rev {α β : Type} {F : α → β → Prop} : ∀ {xs : List α} {ys : List β}, Paired F xs ys → Paired F xs.reverse ys.reverse
  | _, _, .nil => .nil
  | _, _, .cons x r => by
    rw [List.reverse_cons, List.reverse_cons]
    exact Paired.snoc' (Paired.rev r) x
/-! ### equal dicts -/
theorem find_self {κ : Type} [DecidableEq κ] {ls : List (κ × Int)} (nd : (ls.map (·.1)).Nodup) {p : κ × Int} (h : p ∈ ls) : (ls.find? fun x => decide (x.1 = p.1)).map (·.2) = some p.2 := by
  induction ls with
  | nil => cases h
  | cons a ls ih =>
    rw [List.map_cons, List.nodup_cons] at nd
    rw [List.find?_cons]
    by_cases e : a.1 = p.1
    · simp only [e, decide_true]
      rcases List.mem_cons.mp h with q | q
      · rw [q]; rfl
      · exact absurd (show a.1 ∈ ls.map (·.1) by rw [e]; exact List.mem_map.mpr ⟨p, q, rfl⟩) nd.1
    · simp only [e, decide_false]
      rcases List.mem_cons.mp h with q | q
      · exact absurd (by rw [q]) e
      · exact ih nd.2 q
theorem eqKv_self {κ : Type} [DecidableEq κ] {ls : List (κ × Int)} (nd : (ls.map (·.1)).Nodup) : eqKv ls ls = true := by
  unfold eqKv
  rw [Bool.and_eq_true]
  exact ⟨by simp, List.all_eq_true.mpr fun p hp => decide_eq_true (find_self nd hp)⟩
theorem eqKv_ne {κ : Type} [DecidableEq κ] {ks ls : List (κ × Int)} (nd : (ls.map (·.1)).Nodup) {k : κ} {m n : Int} (h1 : (k, m) ∈ ks) (h2 : (k, n) ∈ ls) (ne : m ≠ n) : eqKv ks ls = false := by
  unfold eqKv
  rw [Bool.and_eq_false_iff]
  refine .inr (List.all_eq_false.mpr ⟨_, h1, ?_⟩)
  have := find_self nd h2
  simp only at this ⊢
  rw [this]
  simpa using fun e => ne e.symm
theorem kI_nd {ys : List Str} (nd : ys.Nodup) (g : Str → Int) : ((kI ys g).map (·.1)).Nodup := by
  unfold kI
  rw [List.map_map]
  exact nodup_map (fun a b e => Sum.inr.inj e) nd
theorem kT_nd {qs : List ((Str × Str) × Int)} (nd : (qs.map Prod.fst).Nodup) : ((kT qs).map (·.1)).Nodup := by
  have := dtF_nodup nd
  unfold dtF at this
  unfold kT
  rw [List.map_map] at this ⊢
  exact this
theorem eqPr_self {ys : List Str} {g o : Str → Int} {qs : List ((Str × Str) × Int)} (N : PrN ys ys g o qs) : eqPr ys ys g o qs ys ys g o qs = true := by
  unfold eqPr
  rw [eqKv_self (kI_nd N.nd g), eqKv_self (kI_nd N.nd o), eqKv_self (kT_nd N.sn)]
  rfl
theorem eqPr_out {ys : List Str} {g o o' : Str → Int} {qs qs' : List ((Str × Str) × Int)} (nd : ys.Nodup) {z : Str} (hz : z ∈ ys) (ne : o z ≠ o' z) : eqPr ys ys g o qs ys ys g o' qs' = false := by
  have h1 : eqKv (kI ys o) (kI ys o') = false := eqKv_ne (kI_nd nd o') (k := .inr z) (m := o z) (n := o' z) (List.mem_map.mpr ⟨z, hz, rfl⟩) (List.mem_map.mpr ⟨z, hz, rfl⟩) ne
  unfold eqPr
  rw [h1, Bool.false_and, Bool.and_false]
end MN
/-! _law_behind of k03 -/
namespace MN
open PySem PySem.Spec PyProof.Rows L2
theorem sameLk {H H' : Hp} (e : Same H H') (A : Addr) (u : HO) : Same (upd H A u) (upd H' A u) := fun b x q => by
  by_cases z : b = A
  · rw [z, upd_same] at q ⊢; exact q
  · rw [upd_ne z] at q ⊢; exact e _ _ q
theorem sameUn {H H' : Hp} {A : Addr} {u v : HO} (e : Same (upd H A v) H') (hA : H A = some u) : Same H (upd H' A u) := fun b x q => by
  by_cases z : b = A
  · rw [z, upd_same]; rw [z, hA] at q; exact q
  · rw [upd_ne z]; exact e _ _ (by rw [upd_ne z]; exact q)
theorem FAt.putD {H : Hp} {F A : Addr} {es : List (List Nat × Int)} {u v : HO} (h : FAt H F es) (hA : H A = some u) (nl : ∀ xs, u ≠ .lst xs) (nt : ∀ xs, u ≠ .tup xs) : FAt (upd H A v) F es := by
  obtain ⟨ts, h1, h2⟩ := h
  refine ⟨ts, by rw [upd_ne (fun z => by rw [z, hA] at h1; exact nl _ (Option.some.inj h1))]; exact h1, L2.Paired.mapP h2 fun t e q => ?_⟩
  rw [upd_ne (fun z => by rw [z, hA] at q; exact nt _ (Option.some.inj q))]; exact q
theorem paired_app {α β : Type} {R : α → β → Prop} : ∀ {xs xs2 : List α} {ys ys2 : List β}, Paired R xs ys → Paired R xs2 ys2 → Paired R (xs ++ xs2) (ys ++ ys2)
  | _, _, _, _, .nil, h => h
  | _, _, _, _, .cons a b, h => .cons a (paired_app b h)
section
variable (L : List Nat) (g o : Str → Int) (ps : List ((Str × Str) × Int)) (u : List Nat)
/-- a sign taken out or made another one at place k -/
def SideIt (k : Nat) (e : List Nat × Int) : Prop := OutIt o u k e ∨ ∃ a ∈ L, RowIt g ps u 0 k a e
def PutIt (k a : Nat) (e : List Nat × Int) : Prop := e = (u.take k ++ a :: u.drop k, g (sgS a))
theorem near_side (e : List Nat × Int) : (∃ k, k ≤ u.length ∧ NearIt L g o ps u 2 k e) ↔ (∃ k, k < u.length ∧ SideIt L g o ps u k e) ∨ (u.length < 2 ∧ ∃ k, k ≤ u.length ∧ ∃ a ∈ L, PutIt g u k a e) := by
  constructor
  · rintro ⟨k, hk, ⟨a, ha, ⟨h1, h2⟩ | ⟨x, s, h1, h2, h3⟩⟩ | ⟨x, h1, h2⟩⟩
    · exact .inr ⟨by omega, k, hk, a, ha, h2⟩
    · exact .inl ⟨k, (List.getElem?_eq_some_iff.mp h1).1, .inr ⟨a, ha, .inr ⟨x, s, h1, h2, h3⟩⟩⟩
    · exact .inl ⟨k, (List.getElem?_eq_some_iff.mp h1).1, .inl ⟨x, h1, h2⟩⟩
  · rintro (⟨k, hk, h | ⟨a, ha, ⟨h1, _⟩ | h⟩⟩ | ⟨h, k, hk, a, ha, h2⟩)
    · exact ⟨k, by omega, .inr h⟩
    · omega
    · exact ⟨k, by omega, .inl ⟨a, ha, .inr h⟩⟩
    · exact ⟨k, hk, .inl ⟨a, ha, .inl ⟨by omega, h2⟩⟩⟩
end
section
variable {P : Program} {w : World} {K : PySem.W.Frag} {mg : Str → Option Value} {base : Heap}
def spBehind3 : Sp := fun vs H Q _ => ∃ t zs zs2 g o ps u, vs = [.ref t, .str (wS u)] ∧ Rec H t zs zs2 g o ps ∧ PrN zs zs2 g o ps ∧ (∀ c ∈ u, c ∈ codesOf zs) ∧ u.length ≤ 2 ∧
  ∀ F es H', H F = none → Same H H' → FAt H' F es → es.length ≤ 1000 → (∀ e, e ∈ es ↔ ∃ k, k ≤ u.length ∧ NearIt (codesOf zs) g o ps u 2 k e) → Q (.ref F) H'
abbrev N_law_behind : List Str := ["_law_tables_here", "_law_word", "_law_puts", "_law_outs", "_law_swaps", "_law_found", "_law_at", "_law_sign"]
theorem sc_law_behind : FnScope N_law_behind ["_law_tables_here", "_law_word"] (defScope (top 35)) := ⟨rfl, rfl, rfl, by decide +kernel, rfl, by decide +kernel, by decide +kernel⟩
theorem c_law_behind3 (A : At K mg "_law_behind" (top 35)) (B : Blt mg) : Cal P w K mg base 1 "_law_behind" spBehind3 := by
  refine cal_of A sc_law_behind (fun _ _ _ _ _ _ us hl => match us, hl with | [_, _], _ => rfl) (fun vs H Q E h => ?_) (fun _ cdv A outer s H vs Q E hr h => ?_)
  · obtain ⟨_, _, _, _, _, _, _, rfl, _⟩ := h; rfl
  · obtain ⟨t, zs, zs2, g, o, ps, u, rfl, ⟨TA, TB, TW, ht, hA, hB, hW⟩, N, hu, lu, hQ⟩ := h
    refine ⟨_, (pss_cons (ps_asg (pv 0) (pg_lst rfl (pgs_cons (pg_name (i := 2) sc_law_behind.nd rfl (Or.inr rfl)) (pgs_cons (pg_name (i := 3) sc_law_behind.nd rfl (Or.inl rfl)) (pgs_cons (pg_name (i := 4) sc_law_behind.nd rfl (Or.inl rfl)) pgs_nil)))))
      (pss_cons (ps_set (i := 5) sc_law_behind.nd rfl (Or.inl rfl) (pe_lst pa_nil))
      (pss_cons (ps_for PassesOwn.never rfl (pi_range1 (by rfl) B.range (pa_cons (pe_callB call_len_str (by rfl) B.len (by decide +kernel) (pa_cons (pv 1) pa_nil)) pa_nil)) (pg_name (i := 6) sc_law_behind.nd rfl (Or.inr rfl))
        (pss_cons (ps_expr (pe_append K rfl (pv 5) (pe_tup (pa_cons (pe_op op_add_str (pe_slice sl_str (pv 1) po_none (po_some (pv 6))) (pe_slice sl_str (pv 1) (po_some (pe_op op_add (pv 6) pe_int)) po_none)) (pa_cons (pe_dget (hu_of hr) (pv 3) (pe_ix ix_str (pv 1) (pv 6) (fun _ _ => rfl)) (fun _ _ => rfl)) pa_nil)))))
        (pss_one (ps_lock (ps_for PassesOwn.never rfl (pi_keys (pv 2)) (pg_name (i := 7) sc_law_behind.nd rfl (Or.inl rfl))
          (pss_one (ps_if (pt_cmp (pc_din (hu_of hr) (pe_tup (pa_cons (pe_ix ix_str (pv 1) (pv 6) (fun _ _ => rfl)) (pa_cons (pv 7) pa_nil))) (pv 4)))
            (pss_one (ps_expr (pe_append K rfl (pv 5) (pe_tup (pa_cons (pe_op op_add_str (pe_op op_add_str (pe_slice sl_str (pv 1) po_none (po_some (pv 6))) (pv 7)) (pe_slice sl_str (pv 1) (po_some (pe_op op_add (pv 6) pe_int)) po_none)) (pa_cons (pe_dget (hu_of hr) (pv 4) (pe_tup (pa_cons (pe_ix ix_str (pv 1) (pv 6) (fun _ _ => rfl)) (pa_cons (pv 7) pa_nil))) (fun _ _ => rfl)) pa_nil))))))
            pss_nil)))))))
      (pss_cons (ps_for PassesOwn.never rfl (pi_range1 (by rfl) B.range (pa_cons (pe_op op_mul (pe_op op_add (pe_callB call_len_str (by rfl) B.len (by decide +kernel) (pa_cons (pv 1) pa_nil)) pe_int) (pe_callTy call_int1 (by rfl) B.int (by decide +kernel) (pa_cons (pe_cmpR op_lt (pe_callB call_len_str (by rfl) B.len (by decide +kernel) (pa_cons (pv 1) pa_nil)) pe_int (nomark _)) pa_nil))) pa_nil)) (pg_name (i := 6) sc_law_behind.nd rfl (Or.inr rfl))
        (pss_one (ps_expr (pe_bm PySem.F.plainAttrs_list PySem.F.slot_list_extend PySem.F.type_list_extend mt_extend (pv 5) (pa_cons (pe_lock (pe_lc (own := [("_law_sign", 7)]) (g := gName 7) (tt := tYes) (by rfl) sc_law_behind.nd (pi_keys (pv 2)) (blkOk_by (own := [("_law_sign", 7)]) (N := N_law_behind) (sc := defScope (top 35)) (by decide +kernel)) (fun _ _ _ _ _ => (pg_name (i := 7) sc_law_behind.nd rfl (Or.inl rfl))) (fun _ _ _ _ _ => pts_nil) (fun _ _ _ _ _ => (pe_tup (pa_cons (pe_op op_add_str (pe_op op_add_str (pe_slice sl_str (pv 1) po_none (po_some (pv 6))) (pv 7)) (pe_slice sl_str (pv 1) (po_some (pv 6)) po_none)) (pa_cons (pe_dget (hu_of hr) (pv 2) (pv 7) (fun _ _ => rfl)) pa_nil)))))) pa_nil)))))
      (pss_one (ps_ret (pv 5))))))), ?_⟩
    have two : 2 ≤ sizeLine := by decide
    have big : 100000 < sizeLine := by decide
    have lw : (wS u).length = u.length := wS_len u
    have lenC : ∀ lo hi, (cutS (wS u) lo hi).length ≤ 8 := fun lo hi => by have := cutS_length (wS u) lo hi; omega
    have ls : ∀ a, (sgS a).length = 1 := fun a => rfl
    have lz5 := N.le
    have nAW : TA ≠ TW := fun z => by rw [z, hW] at hA; cases hA
    have nAt : TA ≠ t := fun z => by rw [z, ht] at hA; cases hA
    refine ⟨_, rfl, t, _, rfl, SqL.of ht, rfl, _, _, rfl, _, _, rfl, _, _, rfl, rfl, ?_⟩
    refine ⟨Nat.zero_le _, fun F hF => ?_⟩
    have e1 := same_new (o := .lst []) hF
    have hF1 : FAt (upd H F (.lst [])) F [] := ⟨[], upd_same, .nil⟩
    have nAF : TA ≠ F := fun z => by rw [z, hF] at hA; cases hA
    have frF : ∀ {v : HO}, upd H TA v F = none := fun {v} => by rw [upd_ne nAF.symm]; exact hF
    generalize upd H F (.lst []) = H1 at e1 hF1 ⊢
    refine ⟨_, rfl, _, rfl, by omega, _, rfl, (by omega), (by omega), for_it (walk_range (lo := 0)) (fun k σ H' => (∃ o6 o7, σ = [some (.ref t), some (.str (wS u)), some (.ref TA), some (.ref TB), some (.ref TW), some (.ref F), o6, o7]) ∧ Same H H' ∧ ∃ es, FAt H' F es ∧ es.length ≤ 6 * k ∧ ∀ e, e ∈ es ↔ ∃ k', k' < k ∧ SideIt (codesOf zs) g o ps u k' e) ⟨⟨_, _, rfl⟩, e1, [], hF1, Nat.zero_le _, by simp⟩ (fun _ _ _ _ _ => trivial) (fun k y σ Ha Hb hk e hy => ?_) (fun σ H2 e => ?_)⟩
    · obtain ⟨rfl, hy⟩ := hy
      obtain ⟨⟨o6, o7, rfl⟩, ea, es0, Fa, l0, m0⟩ := e
      have hy : y = .int (k : Nat) := by rw [hy]; simp
      subst hy
      have kl : k < u.length := by
        have h1 : k < (((wS u).length : Int)).toNat := hk
        omega
      have ku : k ≤ u.length := by omega
      have gx := List.getElem?_eq_getElem kl
      have mx : sgS u[k] ∈ zs := (mem_codes N.sg).mp (hu _ (List.getElem_mem kl))
      obtain ⟨ts, hFd, hPr⟩ := Fa
      refine ⟨_, rfl, .inl ⟨rfl, _, SqL.of hFd⟩, _, rfl, _, rfl, _, rfl, _, rfl, by omega, _, rfl, _, rfl, _, _, rfl, rfl, _, rfl, _, rfl, by omega, _, _, rfl, rfl, by have := lenC none (some ((k : Nat) : Int)); have := lenC (some (((k : Nat) : Int) + 1)) none; omega, _, rfl, _, rfl, _, rfl, wS u, _, u[k], rfl, rfl, by omega, atI_nat gx, TB, .int (o (sgS u[k])), rfl, .inl ⟨_, .inr (sgS u[k]), .inl (ea _ _ hB), rfl, (dkF_val (N.pm.nodup_iff.mpr N.nd) o (N.pm.mem_iff.mpr mx)).symm⟩, two, fun t0 ht0 => ?_⟩
      rw [cutTo u ku, cutBehind u kl, wS_app]
      have f0 := same_new (o := .tup [.str (wS (u.take k ++ u.drop (k + 1))), .int (o (sgS u[k]))]) ht0
      have hFe := f0 _ _ hFd
      have hPe : PrsAt _ ts es0 := L2.Paired.mapP hPr fun _ _ q => f0 _ _ q
      refine ⟨F, _, _, rfl, rfl, hFe, (by have := Paired.length hPr; rw [List.length_map]; omega), ?_⟩
      have Fg := FAt.add hFe hPe upd_same
      have eg : Same H (upd (upd Hb t0 (.tup [.str (wS (u.take k ++ u.drop (k + 1))), .int (o (sgS u[k]))])) F (.lst (ts.map V.ref ++ [.ref t0]))) := fun b q z => by
        rw [upd_ne (ne_of_none z hF)]; exact f0 _ _ (ea _ _ z)
      have lg2 : (es0 ++ [(u.take k ++ u.drop (k + 1), o (sgS u[k]))]).length ≤ 6 * k + 1 := by
        rw [List.length_append, List.length_singleton]; omega
      have mg2 : ∀ e, e ∈ es0 ++ [(u.take k ++ u.drop (k + 1), o (sgS u[k]))] ↔ (∃ k', k' < k ∧ SideIt (codesOf zs) g o ps u k' e) ∨ OutIt o u k e := fun e => by
        rw [List.mem_append, List.mem_singleton, m0 e]
        refine or_congr Iff.rfl ⟨fun h => ⟨_, gx, h⟩, ?_⟩
        rintro ⟨x, h1, h2⟩
        rw [gx] at h1
        cases h1
        exact h2
      generalize es0 ++ [(u.take k ++ u.drop (k + 1), o (sgS u[k]))] = es2 at Fg lg2 mg2
      generalize upd (upd Hb t0 (.tup [.str (wS (u.take k ++ u.drop (k + 1))), .int (o (sgS u[k]))])) F (.lst (ts.map V.ref ++ [.ref t0])) = Hg at Fg eg ⊢
      clear f0 hFe hPe hFd hPr ht0 m0 l0 ea
      -- swaps
      refine ⟨TA, _, eg _ _ hA, trivial, fun od => ⟨_, rfl, TA, od, rfl, .inl ⟨_, upd_same, ?_⟩⟩⟩
      refine for_it walk_keys (fun j σ H' => (∃ o7, σ = [some (.ref t), some (.str (wS u)), some (.ref TA), some (.ref TB), some (.ref TW), some (.ref F), some (.int (k : Nat)), o7]) ∧ Same (upd H TA (.frz od (.dK (dkF zs g)))) H' ∧ ∃ es, FAt H' F es ∧ es.length ≤ 6 * k + 1 + j ∧ ∀ e, e ∈ es ↔ ((∃ k', k' < k ∧ SideIt (codesOf zs) g o ps u k' e) ∨ OutIt o u k e) ∨ ∃ j' a, j' < j ∧ zs[j']? = some (sgS a) ∧ RowIt g ps u 0 k a e) ⟨⟨_, rfl⟩, sameLk eg _ _, es2, Fg.putD (eg _ _ hA) (fun _ q => (by cases q)) (fun _ q => (by cases q)), lg2, fun e => by rw [mg2 e]; simp⟩ (fun j σ H' _ e => e.2.1 _ _ upd_same) (fun j y σ Hc0 Hc hj e hy => ?_) (fun σ H3 e => ?_)
      · obtain ⟨rfl, kk, v, hkk, rfl⟩ := hy
        obtain ⟨⟨o7, rfl⟩, ec, es, Fc, lc, mc⟩ := e
        unfold dkF at hkk
        rw [List.getElem?_map] at hkk
        obtain ⟨z, hz, ek⟩ := Option.map_eq_some_iff.mp hkk
        cases ek
        have mz := List.mem_of_getElem? hz
        obtain ⟨a, rfl⟩ : ∃ a, z = sgS a := ⟨codeOf z, (nS_code (N.sg z mz)).symm⟩
        have hj5 : j < 5 := by
          have h1 : j < (dkF zs g).length := hj
          simp only [dkF, List.length_map] at h1
          omega
        refine ⟨_, rfl, _, rfl, wS u, _, u[k], rfl, rfl, by omega, atI_nat gx, _, rfl, two, fun t1 ht1 => ?_⟩
        have f2 := same_new (o := .tup [.str (⟨#[u[k]]⟩ : Str), kV (.inr (sgS a))]) ht1
        have eh := ec.trans f2
        have hW2 : upd H TA (.frz od (.dK (dkF zs g))) TW = some (.dT (dtF ps)) := by rw [upd_ne nAW.symm]; exact hW
        refine ⟨_, rfl, TW, (findP ps (sgS u[k]) (sgS a)).map V.int, rfl, .inr ⟨_, [.inr (sgS u[k]), .inr (sgS a)], t1, .inl (eh _ _ hW2), rfl, upd_same, (valV_dtF N.sn _ _).symm⟩, _, rfl, ?_⟩
        have Fh := Fc.same f2
        generalize upd Hc t1 (.tup [.str (⟨#[u[k]]⟩ : Str), kV (.inr (sgS a))]) = Hh at eh Fh ⊢
        cases fe : findP ps (sgS u[k]) (sgS a) with
        | none =>
          refine iteF ⟨⟨_, rfl⟩, eh, es, Fh, by omega, fun e => ?_⟩
          rw [rowStep hz, ← or_assoc, mc e]
          refine ⟨.inl, fun h => h.elim id ?_⟩
          rintro (⟨h1, _⟩ | ⟨x, s, h1, h2, h3⟩)
          · omega
          · rw [gx] at h1
            cases h1
            rw [fe] at h2
            cases h2
        | some n =>
          obtain ⟨ts, hFh, hPr⟩ := Fh
          refine iteT ⟨_, rfl, .inl ⟨rfl, _, SqL.of hFh⟩, _, rfl, _, rfl, _, rfl, _, rfl, by omega, _, rfl, _, _, rfl, rfl, by have := lenC none (some ((k : Nat) : Int)); have := ls a; omega, _, rfl, _, rfl, _, _, rfl, rfl, _, rfl, _, rfl, by omega, _, _, rfl, rfl, by rw [Str.length_append]; have := lenC none (some ((k : Nat) : Int)); have := lenC (some (((k : Nat) : Int) + 1)) none; have := ls a; omega, _, rfl, _, rfl, _, rfl, wS u, _, u[k], rfl, rfl, by omega, atI_nat gx, _, rfl, two, fun t2 ht2 => ?_⟩
          have f3 := same_new (o := .tup [.str (⟨#[u[k]]⟩ : Str), .str (sgS a)]) ht2
          refine ⟨TW, .int n, rfl, .inr ⟨_, [.inr (sgS u[k]), .inr (sgS a)], t2, .inl (f3 _ _ (eh _ _ hW2)), rfl, upd_same, by rw [valV_dtF N.sn, fe]; rfl⟩, two, fun t3 ht3 => ?_⟩
          rw [cutTo u ku, cutBehind u kl]
          rw [show wS (u.take k) ++ sgS a ++ wS (u.drop (k + 1)) = wS (u.take k ++ a :: u.drop (k + 1)) by
            rw [show sgS a = wS [a] from rfl, wS_app, wS_app]; simp]
          have f4 := f3.trans (same_new (o := .tup [.str (wS (u.take k ++ a :: u.drop (k + 1))), .int n]) ht3)
          have hFi := f4 _ _ hFh
          have hPi : PrsAt _ ts es := L2.Paired.mapP hPr fun _ _ q => f4 _ _ q
          refine ⟨F, _, _, rfl, rfl, hFi, ?_, ⟨_, rfl⟩, fun b q z => ?_, _, FAt.add hFi hPi upd_same, ?_, fun e => ?_⟩
          · have := Paired.length hPr
            rw [List.length_map]
            omega
          · rw [upd_ne (ne_of_none z frF)]; exact f4 _ _ (eh _ _ z)
          · rw [List.length_append, List.length_singleton]; omega
          · rw [List.mem_append, List.mem_singleton, rowStep hz, ← or_assoc, mc e]
            refine or_congr Iff.rfl ⟨fun h => .inr ⟨_, _, gx, fe, h⟩, ?_⟩
            rintro (⟨h1, _⟩ | ⟨x, s, h1, h2, h3⟩)
            · omega
            · rw [gx] at h1
              cases h1
              rw [fe] at h2
              cases h2
              exact h3
      · obtain ⟨⟨o7, rfl⟩, ec, es, Fc, lc, mc⟩ := e
        have frz3 := ec _ _ upd_same
        refine ⟨frz3, ⟨_, _, rfl⟩, sameUn ec hA, es, Fc.putD frz3 (fun _ q => (by cases q)) (fun _ q => (by cases q)), ?_, fun e => ?_⟩
        · have : (dkF zs g).length = zs.length := by simp [dkF]
          rw [this] at lc
          omega
        · have ln : (dkF zs g).length = zs.length := by simp [dkF]
          rw [mc e, ln]
          constructor
          · rintro ((⟨k', h1, h2⟩ | h2) | ⟨j', a, _, h2, h3⟩)
            · exact ⟨k', by omega, h2⟩
            · exact ⟨k, by omega, .inl h2⟩
            · exact ⟨k, by omega, .inr ⟨a, (mem_codes N.sg).mpr (List.mem_of_getElem? h2), h3⟩⟩
          · rintro ⟨k', h1, h2⟩
            by_cases q : k' = k
            · subst q
              rcases h2 with h2 | ⟨a, ha, h2⟩
              · exact .inl (.inr h2)
              · obtain ⟨j', h3⟩ := List.mem_iff_getElem?.mp ((mem_codes N.sg).mp ha)
                exact .inr ⟨j', a, (List.getElem?_eq_some_iff.mp h3).1, h3, h2⟩
            · exact .inl (.inl ⟨k', by omega, h2⟩)
    · obtain ⟨⟨o6, o7, rfl⟩, ea, es0, Fa, l0, m0⟩ := e
      rw [show (((wS u).length : Int)).toNat = u.length by omega] at l0 m0
      have nEq : ((((wS u).length : Int) + 1) * (if decide (((wS u).length : Int) < 2) = true then 1 else 0)).toNat = if u.length < 2 then u.length + 1 else 0 := by
        by_cases q : u.length < 2
        · rw [if_pos q, decide_eq_true (show ((wS u).length : Int) < 2 by omega), if_pos rfl, Int.mul_one]; omega
        · rw [if_neg q, decide_eq_false (show ¬ ((wS u).length : Int) < 2 by omega), if_neg (by decide), Int.mul_zero]; rfl
      have nB : 0 ≤ (((wS u).length : Int) + 1) * (if decide (((wS u).length : Int) < 2) = true then 1 else 0) ∧ (((wS u).length : Int) + 1) * (if decide (((wS u).length : Int) < 2) = true then 1 else 0) ≤ 3 := by
        by_cases q : u.length < 2
        · rw [decide_eq_true (show ((wS u).length : Int) < 2 by omega), if_pos rfl, Int.mul_one]; omega
        · rw [decide_eq_false (show ¬ ((wS u).length : Int) < 2 by omega), if_neg (by decide), Int.mul_zero]; omega
      refine ⟨_, rfl, _, rfl, by omega, _, _, rfl, rfl, _, rfl, _, rfl, by omega, _, _, rfl, rfl, .inr ⟨_, rfl, _, _, rfl, rfl, .inl ⟨by omega, by omega⟩, _, rfl, by omega, by omega, for_it (walk_range (lo := 0)) (fun k σ H' => (∃ o6 o7, σ = [some (.ref t), some (.str (wS u)), some (.ref TA), some (.ref TB), some (.ref TW), some (.ref F), o6, o7]) ∧ Same H H' ∧ ∃ es, FAt H' F es ∧ es.length ≤ 12 + 5 * k ∧ ∀ e, e ∈ es ↔ (∃ k', k' < u.length ∧ SideIt (codesOf zs) g o ps u k' e) ∨ ∃ k', k' < k ∧ ∃ a ∈ codesOf zs, PutIt g u k' a e) ⟨⟨_, _, rfl⟩, ea, es0, Fa, by omega, fun e => by rw [m0 e]; simp⟩ (fun _ _ _ _ _ => trivial) (fun k y σ Hb0 Hb hk e hy => ?_) (fun σ H3 e => ?_)⟩⟩
      · obtain ⟨rfl, hy⟩ := hy
        obtain ⟨⟨o6, o7, rfl⟩, eb, es, Fb, lb, mb⟩ := e
        clear ea Fa m0 l0
        rw [nEq] at hk
        have hy : y = .int (k : Nat) := by rw [hy]; simp
        subst hy
        have ku : k ≤ u.length := by split at hk <;> omega
        obtain ⟨ts, hFb, hPr⟩ := Fb
        have hAb := eb _ _ hA
        refine ⟨_, rfl, .inl ⟨rfl, _, SqL.of hFb⟩, TA, _, hAb, trivial, fun od => ⟨_, rfl, TA, od, rfl, .inl ⟨_, upd_same, fun D hD => ?_⟩⟩⟩
        have nD : D ≠ TA := fun z => by rw [z, upd_same] at hD; cases hD
        have nDF : D ≠ F := fun z => by rw [z, upd_ne nAF.symm, hFb] at hD; cases hD
        refine lc_newF walk_keys (strsV zs) (by simp [strsV, dkF]) (by simp only [dkF, List.length_map]; omega) (fun i H x H' hi y => ?_) hD (fun H' e => e _ _ upd_same) (fun _ _ => by kernel_rfl) (fun i v H' => ∃ z, zs[i]? = some z ∧ H' v = some (.tup [.str (wS (u.take k ++ codeOf z :: u.drop k)), .int (g z)])) (fun i v _ _ up n r => r.imp fun z h => ⟨h.1, up _ _ n h.2⟩) (fun _ _ _ r => r.elim fun z h => ⟨_, h.2⟩) (fun i y hy H2 e2 _ Q' q' => ?_) (fun H2 qs e2 u2 nq nDq lq r2 => ⟨e2 _ _ upd_same, ?_⟩)
        · obtain ⟨rfl, kk, v, hk, rfl⟩ := y
          unfold dkF at hk
          rw [List.getElem?_map] at hk
          obtain ⟨z, hz, ek⟩ := Option.map_eq_some_iff.mp hk
          cases ek
          exact ⟨rfl, by show (zs.map V.str)[i]? = _; rw [List.getElem?_map, hz]; rfl⟩
        · have hy' : (zs.map V.str)[i]? = some y := hy
          rw [List.getElem?_map] at hy'
          obtain ⟨z, hz, rfl⟩ := Option.map_eq_some_iff.mp hy'
          have mz := List.mem_of_getElem? hz
          have lz : z.length = 1 := by rw [len_one (N.sg z mz)]
          refine ⟨_, rfl, _, rfl, _, rfl, _, rfl, by omega, _, rfl, _, _, rfl, rfl, by have := lenC none (some ((k : Nat) : Int)); omega, _, rfl, _, rfl, _, rfl, _, rfl, by omega, _, _, rfl, rfl, by rw [Str.length_append]; have := lenC none (some ((k : Nat) : Int)); have := lenC (some ((k : Nat) : Int)) none; omega, _, rfl, _, rfl, TA, .int (g z), rfl, .inl ⟨_, .inr z, .inr ⟨od, e2 _ _ upd_same⟩, rfl, (dkF_val N.nd g mz).symm⟩, two, fun T hT => q' T _ hT (same_new hT) ⟨z, hz, ?_⟩⟩
          rw [upd_same, cutTo u ku, cutFrom u ku]
          rw [show wS (u.take k) ++ z ++ wS (u.drop k) = wS (u.take k ++ codeOf z :: u.drop k) by
            conv => lhs; rw [show z = wS [codeOf z] from (nS_code (N.sg z mz)).symm, wS_app, wS_app]
            simp]
        have hFL : upd Hb TA (.frz od (.dK (dkF zs g))) F = some (.lst (ts.map V.ref)) := by rw [upd_ne nAF.symm]; exact hFb
        have sB := sameUn e2 hAb
        have hF3 : upd H2 TA (.dK (dkF zs g)) F = some (.lst (ts.map V.ref)) := sB _ _ hFb
        have hD3 : upd H2 TA (.dK (dkF zs g)) D = some (.lst (qs.map V.ref)) := by rw [upd_ne nD]; exact u2
        have prq : PrsAt (upd H2 TA (.dK (dkF zs g))) qs (zs.map fun z => (u.take k ++ codeOf z :: u.drop k, g z)) := by
          refine paired_of (by rw [lq]; simp [dkF]) fun i q e hq he => ?_
          obtain ⟨z, h1, h2⟩ := r2 i q hq
          rw [List.getElem?_map, h1] at he
          cases he
          rw [upd_ne (fun y => by rw [y, e2 _ _ upd_same] at h2; cases h2)]; exact h2
        have prt : PrsAt (upd H2 TA (.dK (dkF zs g))) ts es := L2.Paired.mapP hPr fun _ _ q => sB _ _ q
        have lts : ts.length = es.length := Paired.length hPr
        have lqs : qs.length = zs.length := by rw [lq]; simp [dkF]
        have k5 : k ≤ 2 := by omega
        refine ⟨F, D, _, _, rfl, rfl, hF3, hD3, by rw [List.length_map, List.length_map]; omega, ⟨_, _, rfl⟩, fun b q z => ?_, es ++ zs.map (fun z => (u.take k ++ codeOf z :: u.drop k, g z)), ⟨ts ++ qs, by rw [upd_same, List.map_append], ?_⟩, ?_, fun e => ?_⟩
        · rw [upd_ne (ne_of_none z hF)]; exact sB _ _ (eb _ _ z)
        · refine L2.Paired.mapP (paired_app prt prq) fun t e q => ?_
          rw [upd_ne (fun z => by rw [z, hF3] at q; cases q)]; exact q
        · rw [List.length_append, List.length_map]; omega
        · rw [List.mem_append, mb e, or_assoc]
          refine or_congr Iff.rfl ⟨?_, ?_⟩
          · rintro (⟨k', h1, h2⟩ | h)
            · exact ⟨k', by omega, h2⟩
            · obtain ⟨z, hz, rfl⟩ := List.mem_map.mp h
              have zc : sgS (codeOf z) = z := nS_code (N.sg z hz)
              exact ⟨k, by omega, codeOf z, code_mem N.sg hz, by unfold PutIt; rw [zc]⟩
          · rintro ⟨k', h1, a, ha, h2⟩
            by_cases q : k' = k
            · subst q
              refine .inr (List.mem_map.mpr ⟨sgS a, (mem_codes N.sg).mp ha, ?_⟩)
              rw [h2]; rfl
            · exact .inl ⟨k', by omega, a, ha, h2⟩
      · obtain ⟨⟨o6, o7, rfl⟩, eb, es, Fb, lb, mb⟩ := e
        rw [nEq] at lb mb
        refine ⟨_, rfl, hQ F es H3 hF eb Fb ?_ fun e => ?_⟩
        · split at lb <;> omega
        · rw [mb e, near_side]
          refine or_congr Iff.rfl ⟨?_, ?_⟩
          · rintro ⟨k, h1, h2⟩
            by_cases q : u.length < 2
            · rw [if_pos q] at h1
              exact ⟨q, k, by omega, h2⟩
            · rw [if_neg q] at h1
              omega
          · rintro ⟨q, k, h1, h2⟩
            exact ⟨k, by rw [if_pos q]; omega, h2⟩
end
end MN
/-! _law_costs of k03: costs by rounds -/
namespace MN
open PySem PySem.Spec PyProof.Rows L2
theorem Net.congr {α : Type} {D : α → Int} {W W' : List α} {E : α → α → Int → Prop} {b : α} (n : Net D W E b) (h : ∀ v, v ∈ W' ↔ v ∈ W) : Net D W' E b :=
  ⟨n.b0, (h b).mpr n.bW, fun v hv => n.nn v ((h v).mp hv), fun u hu v s e => by
    obtain ⟨h1, h2⟩ := n.ed u ((h u).mp hu) v s e
    exact ⟨(h v).mpr h1, h2⟩, fun v hv ne => by
    obtain ⟨u, hu, s, h1, h2⟩ := n.pre v ((h v).mp hv) ne
    exact ⟨u, (h u).mpr hu, s, h1, h2⟩⟩
theorem butLk {T A : Addr} {H H' : Hp} {u : HO} (e : But T H H') : But T (upd H A u) (upd H' A u) := fun b x n q => by
  by_cases z : b = A
  · rw [z, upd_same] at q ⊢; exact q
  · rw [upd_ne z] at q ⊢; exact e _ _ n q
theorem butUn {T A : Addr} {H H' : Hp} {u v : HO} (e : But T (upd H A v) H') (hA : H A = some u) : But T H (upd H' A u) := fun b x n q => by
  by_cases z : b = A
  · rw [z, upd_same]; rw [z, hA] at q; exact q
  · rw [upd_ne z]; exact e _ _ n (by rw [upd_ne z]; exact q)
/-- a dict from words to the lists of their changes -/
def Steps3 (H : Hp) (st : Addr) (W : List (List Nat)) (zs : List Str) (g o : Str → Int) (ps : List SP2) : Prop := ∃ kN : List (Key × V), H st = some (.dK kN) ∧ kN.map (·.1) = W.map (fun v => (Sum.inr (wS v) : Key)) ∧
  ∀ v ∈ W, ∃ F es, valV kN (.inr (wS v)) = some (.ref F) ∧ FAt H F es ∧ es.length ≤ 1000 ∧ ∀ e, e ∈ es ↔ ∃ k, k ≤ v.length ∧ NearIt (codesOf zs) g o ps v 2 k e
theorem Steps3.same {H H' : Hp} {st : Addr} {W : List (List Nat)} {zs : List Str} {g o : Str → Int} {ps : List SP2} (h : Steps3 H st W zs g o ps) (e : Same H H') : Steps3 H' st W zs g o ps := by
  obtain ⟨kN, h1, h2, h3⟩ := h
  refine ⟨kN, e _ _ h1, h2, fun v hv => ?_⟩
  obtain ⟨F, es, a, b, c⟩ := h3 v hv
  exact ⟨F, es, a, b.same e, c⟩
section
variable {P : Program} {w : World} {K : PySem.W.Frag} {mg : Str → Option Value} {base : Heap}
def spCosts3 : Sp := fun vs H Q _ => ∃ st b zs zs2 g o ps c W, vs = [.ref st, .str (wS b)] ∧ Steps3 H st W zs g o ps ∧ PrN zs zs2 g o ps ∧ Clo (codesOf zs) (rOf (codesOf zs) g o ps) c ∧ (∀ v, v ∈ W ↔ v ∈ allU (codesOf zs) 2) ∧ W.length ≤ 1000 ∧ b ∈ W ∧
  ∀ Fd kvs H', H Fd = none → Same H H' → H' Fd = some (.dK kvs) → (∀ v ∈ W, valV kvs (.inr (wS v)) = some (.int (Dc c b.reverse v.reverse))) → Q (.ref Fd) H'
abbrev N_law_costs : List Str := ["_law_steps", "_law_word", "_law_found", "_law_turn", "_law_is_new", "_law_one", "_law_other", "_law_price"]
theorem sc_law_costs : FnScope N_law_costs ["_law_steps", "_law_word"] (defScope (top 36)) := ⟨rfl, rfl, rfl, by decide +kernel, rfl, by decide +kernel, by decide +kernel⟩
theorem c_law_costs (A : At K mg "_law_costs" (top 36)) (B : Blt mg) : Cal P w K mg base 1 "_law_costs" spCosts3 := by
  refine cal_of A sc_law_costs (fun _ _ _ _ _ _ us hl => match us, hl with | [_, _], _ => rfl) (fun vs H Q E h => ?_) (fun _ cdv A outer s H vs Q E hr h => ?_)
  · obtain ⟨_, _, _, _, _, _, _, _, _, rfl, _⟩ := h; rfl
  · obtain ⟨st, b, zs, zs2, g, o, ps, c, W, rfl, ⟨kN, hSt, keys, near⟩, N, C, hWm, wl, hb, hQ⟩ := h
    refine ⟨_, (pss_cons (ps_set (i := 2) sc_law_costs.nd rfl (Or.inl rfl) (pe_disp (pps_cons (pv 1) pe_int pps_nil) rfl rfl (by decide) (by decide)))
      (pss_cons (ps_for PassesOwn.never rfl (pi_range1 (by rfl) B.range (pa_cons (pe_callB call_lenD (by rfl) B.len (by decide +kernel) (pa_cons (pv 0) pa_nil)) pa_nil)) (pg_name (i := 3) sc_law_costs.nd rfl (Or.inl rfl))
        (pss_cons (ps_set (i := 4) sc_law_costs.nd rfl (Or.inl rfl) pe_bl)
        (pss_cons (ps_lock (ps_for PassesOwn.never rfl (pi_keys (pv 0)) (pg_name (i := 5) sc_law_costs.nd rfl (Or.inl rfl))
          (pss_one (ps_if (pt_cmp (pc_din (hu_of hr) (pv 5) (pv 2)))
            (pss_one (ps_for PassesOwn.never rfl (pi_list (pe_dget (hu_of hr) (pv 0) (pv 5) (fun _ _ => rfl))) (pg_tup rfl (pgs_cons (pg_name (i := 6) sc_law_costs.nd rfl (Or.inl rfl)) (pgs_cons (pg_name (i := 7) sc_law_costs.nd rfl (Or.inl rfl)) pgs_nil)))
              (pss_one (ps_if (PW.pt (pw_or (pt_cmp (pc_dnotin (hu_of hr) (pv 6) (pv 2))) (pw_or1 (pt_cmpR op_lt (pe_op op_add (pe_dget (hu_of hr) (pv 2) (pv 5) (fun _ _ => rfl)) (pv 7)) (pe_dget (hu_of hr) (pv 2) (pv 6) (fun _ _ => rfl)) (nomark _)))))
                (pss_cons (ps_dput (hu_of hr) (pv 2) (pv 6) (pe_op op_add (pe_dget (hu_of hr) (pv 2) (pv 5) (fun _ _ => rfl)) (pv 7)) (by rfl))
                (pss_one (ps_set (i := 4) sc_law_costs.nd rfl (Or.inl rfl) pe_bl)))
                pss_nil))))
            pss_nil))))
        (pss_one (ps_if (pt_not (pt_val (pv 4)))
          (pss_one (ps_ret (pv 2)))
          pss_nil)))))
      (pss_one (ps_ret (pv 2))))), ?_⟩
    have two : 2 ≤ sizeLine := by decide
    have big : 100000 < sizeLine := by decide
    have NT := (net_words N C ((hWm b).mp hb)).congr hWm
    have lk : kN.length = W.length := by have := congrArg List.length keys; simpa using this
    -- {begin: 0}
    refine fun Fd hFd => ⟨_, rfl, ?_⟩
    refine ⟨upd_same, [(.inr (wS b), .int 0)], rfl, (by show 1 ≤ 15; decide), ?_⟩
    rw [upd_upd, show mergeK [] [((.inr (wS b) : Key), V.int 0)] = [(.inr (wS b), .int 0)] from rfl]
    have e1 := same_new (o := .dK [((.inr (wS b) : Key), V.int 0)]) hFd
    have hF1 : upd H Fd (.dK [((.inr (wS b) : Key), V.int 0)]) Fd = some (.dK [(.inr (wS b), .int 0)]) := upd_same
    generalize upd H Fd (.dK [((.inr (wS b) : Key), V.int 0)]) = H3 at e1 hF1 ⊢
    have FM0 : FM W [(.inr (wS b), .int 0)] (fun x => if x = b then some 0 else none) := by
      have := (⟨by simp, by simp, fun v => rfl⟩ : FM W [] fun _ => none).put hb 0
      exact this
    have hS3 := e1 _ _ hSt
    have SF : st ≠ Fd := fun z => by rw [z, hFd] at hSt; cases hSt
    have keep3 : ∀ {H' : Hp}, But Fd H3 H' → Same H H' := fun bt b' u' q => bt b' u' (ne_of_none q hFd) (e1 _ _ q)
    have S0 : Snd (fun v => Dc c b.reverse v.reverse) W b (fun x => if x = b then some 0 else none) := by
      refine ⟨if_pos rfl, fun v x h => ?_⟩
      have h' : (if v = b then some 0 else none) = some x := h
      by_cases e : v = b
      · rw [if_pos e] at h'
        cases h'
        rw [e]
        exact ⟨hb, Int.le_of_eq NT.b0⟩
      · rw [if_neg e] at h'
        cases h'
    -- rounds
    refine ⟨_, rfl, st, _, rfl, hS3, _, rfl, (by omega), (by omega), for_it (walk_range (lo := 0)) (fun i σ H' => (∃ o6 o7 o8 o9 o10, σ = [some (.ref st), some (.str (wS b)), some (.ref Fd), o6, o7, o8, o9, o10]) ∧ But Fd H3 H' ∧ ∃ kvs f, H' Fd = some (.dK kvs) ∧ FM W kvs f ∧ Snd (fun v => Dc c b.reverse v.reverse) W b f ∧ ExR (fun v => Dc c b.reverse v.reverse) W i f) ⟨⟨_, _, _, _, _, rfl⟩, But.refl, _, _, hF1, FM0, S0, ExR.zero NT S0⟩ (fun _ _ _ _ _ => trivial) (fun i y σ Ha Hb hi e hy => ?_) (fun σ H5 e => ?_)⟩
    · obtain ⟨rfl, rfl⟩ := hy
      obtain ⟨⟨o6, o7, o8, o9, o10, rfl⟩, ba, kv0, f0, hFa, M0, S1, X0⟩ := e
      refine ⟨st, _, ba _ _ SF hS3, trivial, fun od => ⟨_, rfl, st, od, rfl, .inl ⟨_, upd_same, ?_⟩⟩⟩
      have nearL : ∀ v ∈ W, ∃ F es, valV kN (.inr (wS v)) = some (.ref F) ∧ FAt (upd H3 st (.frz od (.dK kN))) F es ∧ es.length ≤ 1000 ∧ ∀ e, e ∈ es ↔ ∃ k, k ≤ v.length ∧ NearIt (codesOf zs) g o ps v 2 k e := fun v hv => by
        obtain ⟨F, es, a, q, r⟩ := near v hv
        exact ⟨F, es, a, (q.same e1).putD hS3 (fun _ q => (by cases q)) (fun _ q => (by cases q)), r⟩
      have hFL : upd H3 st (.frz od (.dK kN)) Fd = some (.dK [(.inr (wS b), .int 0)]) := by rw [upd_ne SF.symm]; exact hF1
      have hSL : upd H3 st (.frz od (.dK kN)) st = some (.frz od (.dK kN)) := upd_same
      have baL : But Fd (upd H3 st (.frz od (.dK kN))) (upd Hb st (.frz od (.dK kN))) := butLk ba
      have hFaL : upd Hb st (.frz od (.dK kN)) Fd = some (.dK kv0) := by rw [upd_ne SF.symm]; exact hFa
      have unL : ∀ {H' : Hp}, But Fd (upd H3 st (.frz od (.dK kN))) H' → But Fd H3 (upd H' st (.dK kN)) := fun h => butUn h hS3
      generalize upd H3 st (.frz od (.dK kN)) = HL at nearL hFL hSL baL unL ⊢
      generalize upd Hb st (.frz od (.dK kN)) = HbL at baL hFaL ⊢
      refine for_it walk_keys (fun j σ H' => ∃ nw : Bool, (∃ o6 o9 o10, σ = [some (.ref st), some (.str (wS b)), some (.ref Fd), some (.int ((0 : Nat) + i)), some (.bl nw), o6, o9, o10]) ∧ But Fd HL H' ∧ ∃ kvs f, H' Fd = some (.dK kvs) ∧ FM W kvs f ∧ Snd (fun v => Dc c b.reverse v.reverse) W b f ∧ LeF f0 f ∧
        (∀ u ∈ W.take j, f0 u = some (Dc c b.reverse u.reverse) → ∀ v s, (∃ k, k ≤ u.length ∧ NearIt (codesOf zs) g o ps u 2 k (v, s)) → ∃ y, f v = some y ∧ y ≤ Dc c b.reverse u.reverse + s) ∧
        (nw = false → f = f0 ∧ ∀ u ∈ W.take j, ∀ x, f u = some x → ∀ v s, (∃ k, k ≤ u.length ∧ NearIt (codesOf zs) g o ps u 2 k (v, s)) → ∃ y, f v = some y ∧ y ≤ x + s)) ⟨false, ⟨_, _, _, rfl⟩, baL, kv0, f0, hFaL, M0, S1, LeF.refl, by simp, fun _ => ⟨rfl, by simp⟩⟩ (fun j σ H' _ e => by obtain ⟨_, _, bt, _⟩ := e; exact bt _ _ SF hSL) (fun j y σ Hc0 Hc hj e hy => ?_) (fun σ H4 e => ?_)
      · obtain ⟨rfl, kk, vv, hkk, rfl⟩ := hy
        obtain ⟨nw, ⟨o6, o9, o10, rfl⟩, bc, kvs, f, hFc, M, S, LE, R, NN⟩ := e
        obtain ⟨u, hu, ek⟩ : ∃ u, W[j]? = some u ∧ (Sum.inr (wS u) : Key) = kk := by
          have h1 : (kN.map (·.1))[j]? = some kk := by rw [List.getElem?_map, hkk]; rfl
          rw [keys, List.getElem?_map] at h1
          obtain ⟨u, h2, h3⟩ := Option.map_eq_some_iff.mp h1
          exact ⟨u, h2, h3⟩
        subst ek
        have mu := List.mem_of_getElem? hu
        have tk : ∀ x, x ∈ W.take (j + 1) ↔ x ∈ W.take j ∨ x = u := fun x => by rw [List.take_add_one, hu]; simp
        have hSc := bc _ _ SF hSL
        refine ⟨_, rfl, _, rfl, Fd, (f u).map V.int, rfl, .inl ⟨kvs, .inr (wS u), .inl hFc, rfl, (M.vl u).symm⟩, _, rfl, ?_⟩
        cases fu : f u with
        | none =>
          refine iteF ⟨nw, ⟨_, _, _, rfl⟩, bc, kvs, f, hFc, M, S, LE, fun v hv h0 => ?_, fun hn => ⟨(NN hn).1, fun v hv x hx => ?_⟩⟩
          · rcases (tk v).mp hv with hv | rfl
            · exact R v hv h0
            · obtain ⟨x', hx', _⟩ := LE v _ h0
              rw [fu] at hx'
              cases hx'
          · rcases (tk v).mp hv with hv | rfl
            · exact (NN hn).2 v hv x hx
            · rw [fu] at hx
              cases hx
        | some x =>
          obtain ⟨F, es, vF, FA, le, me⟩ := nearL u mu
          refine iteT ⟨_, rfl, _, rfl, st, .ref F, rfl, .inl ⟨_, .inr (wS u), .inr ⟨od, hSc⟩, rfl, vF.symm⟩, F, rfl, ?_⟩
          obtain ⟨us, hFF, hPP⟩ := FA
          have FF : F ≠ Fd := fun z => by rw [z, hFL] at hFF; cases hFF
          have lus : us.length = es.length := Paired.length hPP
          have sqF : ∀ {H' : Hp}, But Fd HL H' → SqL K H' F (us.map V.ref) := fun bt => SqL.of (bt _ _ FF hFF)
          have Du : Dc c b.reverse u.reverse ≤ x := (S.2 u x fu).2
          have Du0 : 0 ≤ Dc c b.reverse u.reverse := (NT.nn u mu).1
          refine ⟨⟨_, sqF bc⟩, for_it walk_list (fun m σ H' => ∃ nw' : Bool, (∃ o9 o10, σ = [some (.ref st), some (.str (wS b)), some (.ref Fd), some (.int ((0 : Nat) + i)), some (.bl nw'), some (.str (wS u)), o9, o10]) ∧ But Fd HL H' ∧ ∃ kvs f', H' Fd = some (.dK kvs) ∧ FM W kvs f' ∧ Snd (fun v => Dc c b.reverse v.reverse) W b f' ∧ LeF f f' ∧ f' u = some x ∧ (∀ e ∈ es.take m, ∃ y, f' e.1 = some y ∧ y ≤ x + e.2) ∧ (nw' = false → nw = false ∧ f' = f)) ⟨nw, ⟨_, _, rfl⟩, bc, kvs, f, hFc, M, S, LeF.refl, fu, by simp, fun h => ⟨h, rfl⟩⟩ (fun m σ H' _ e => by obtain ⟨_, _, bt, _⟩ := e; exact sqF bt) (fun m y σ Hd0 Hd hm e hy => ?_) (fun σ H' e => ?_)⟩
          · obtain ⟨rfl, hy⟩ := hy
            obtain ⟨nw', ⟨o9, o10, rfl⟩, bd, kvs', f', hFd', M', S', LE', fu', R', NN'⟩ := e
            rw [List.getElem?_map] at hy
            obtain ⟨te, hte, rfl⟩ := Option.map_eq_some_iff.mp hy
            have hm' : m < es.length := by
              have : m < (us.map V.ref).length := hm
              rw [List.length_map] at this
              omega
            obtain ⟨⟨v, s⟩, hvs, htup⟩ := LiI.paired_get hPP hte
            have mE : (v, s) ∈ es := List.mem_of_getElem? hvs
            obtain ⟨vW, vD, s1⟩ := NT.ed u mu v s ((me (v, s)).mp mE)
            have tF : te ≠ Fd := fun z => by rw [z, hFL] at htup; cases htup
            have htd := bd _ _ tF htup
            have tkm : ∀ e, e ∈ es.take (m + 1) ↔ e ∈ es.take m ∨ e = (v, s) := fun e => by rw [List.take_add_one, hvs]; simp
            have small : kvs'.length < sizeLine := by have := M'.len; omega
            have du : DGet Hd Fd (.str (wS u)) (some (.int x)) := .inl ⟨kvs', .inr (wS u), .inl hFd', rfl, by rw [M'.vl, fu']; rfl⟩
            refine ⟨te, _, rfl, .inl (.inl htd), rfl, _, _, rfl, _, _, rfl, rfl, ?_⟩
            refine ⟨_, rfl, _, rfl, Fd, (f' v).map V.int, rfl, .inl ⟨kvs', .inr (wS v), .inl hFd', rfl, (M'.vl v).symm⟩, _, rfl, ?_⟩
            have upd_ok : (∀ y, f' v = some y → x + s < y) → ∃ nw'' : Bool, (∃ o9 o10, [some (.ref st), some (.str (wS b)), some (.ref Fd), some (.int ((0 : Nat) + i)), some (.bl true), some (.str (wS u)), some (.str (wS v)), some (.int s)] = [some (.ref st), some (.str (wS b)), some (.ref Fd), some (.int ((0 : Nat) + i)), some (V.bl nw''), some (.str (wS u)), o9, o10]) ∧ But Fd HL (upd Hd Fd (.dK (putK kvs' (.inr (wS v)) (.int (x + s))))) ∧ ∃ kvs f'', upd Hd Fd (.dK (putK kvs' (.inr (wS v)) (.int (x + s)))) Fd = some (.dK kvs) ∧ FM W kvs f'' ∧ Snd (fun v => Dc c b.reverse v.reverse) W b f'' ∧ LeF f f'' ∧ f'' u = some x ∧ (∀ e ∈ es.take (m + 1), ∃ y, f'' e.1 = some y ∧ y ≤ x + e.2) ∧ (nw'' = false → nw = false ∧ f'' = f) := fun hlt => by
              have L2f : LeF f' (fun z => if z = v then some (x + s) else f' z) := fun z y hz => by
                by_cases e : z = v
                · subst e
                  exact ⟨x + s, if_pos rfl, by have := hlt y hz; omega⟩
                · exact ⟨y, (if_neg e).trans hz, Int.le_refl _⟩
              refine ⟨true, ⟨_, _, rfl⟩, bd.put, _, fun z => if z = v then some (x + s) else f' z, upd_same, M'.put vW (x + s), ⟨?_, fun z y hz => ?_⟩, LE'.trans L2f, ?_, fun e he => ?_, fun h => by cases h⟩
              · show (if b = v then some (x + s) else f' b) = some 0
                by_cases e : b = v
                · have := hlt 0 (by rw [← e]; exact S'.1)
                  omega
                · rw [if_neg e]; exact S'.1
              · have hz' : (if z = v then some (x + s) else f' z) = some y := hz
                by_cases e : z = v
                · rw [if_pos e] at hz'
                  cases hz'
                  rw [e]
                  exact ⟨vW, by show Dc c b.reverse v.reverse ≤ x + s; have : Dc c b.reverse v.reverse ≤ Dc c b.reverse u.reverse + s := vD; have : Dc c b.reverse u.reverse ≤ x := Du; omega⟩
                · rw [if_neg e] at hz'
                  exact S'.2 z y hz'
              · show (if u = v then some (x + s) else f' u) = some x
                by_cases e : u = v
                · have := hlt x (by rw [← e]; exact fu')
                  omega
                · rw [if_neg e]; exact fu'
              · rcases (tkm e).mp he with he | rfl
                · obtain ⟨y, hy, ly⟩ := R' e he
                  obtain ⟨y', hy', ly'⟩ := L2f _ _ hy
                  exact ⟨y', hy', by omega⟩
                · exact ⟨x + s, if_pos rfl, Int.le_refl _⟩
            cases fv : f' v with
            | none =>
              refine iteT (iteT ⟨_, rfl, _, rfl, Fd, .int x, rfl, du, _, rfl, _, _, rfl, rfl, _, rfl, _, rfl, Fd, _, rfl, .inl ⟨kvs', .inr (wS v), hFd', rfl, small, rfl⟩, ?_⟩)
              exact upd_ok fun y h => by rw [fv] at h; cases h
            | some y =>
              have dv : DGet Hd Fd (.str (wS v)) (some (.int y)) := .inl ⟨kvs', .inr (wS v), .inl hFd', rfl, by rw [M'.vl, fv]; rfl⟩
              refine iteF ⟨_, rfl, _, rfl, Fd, .int x, rfl, du, _, rfl, _, _, rfl, rfl, _, rfl, _, rfl, Fd, .int y, rfl, dv, _, _, rfl, rfl, _, rfl, ?_⟩
              by_cases lt : x + s < y
              · rw [decide_eq_true lt]
                refine iteT ⟨_, rfl, _, rfl, Fd, .int x, rfl, du, _, rfl, _, _, rfl, rfl, _, rfl, _, rfl, Fd, _, rfl, .inl ⟨kvs', .inr (wS v), hFd', rfl, small, rfl⟩, ?_⟩
                exact upd_ok fun y' h => by rw [fv] at h; cases h; exact lt
              · rw [decide_eq_false lt]
                refine iteF ⟨nw', ⟨_, _, rfl⟩, bd, kvs', f', hFd', M', S', LE', fu', fun e he => ?_, NN'⟩
                rcases (tkm e).mp he with he | rfl
                · exact R' e he
                · exact ⟨y, fv, by show y ≤ x + s; omega⟩
          · obtain ⟨nw', ⟨o9, o10, rfl⟩, bd, kvs', f', hFd', M', S', LE', fu', R', NN'⟩ := e
            have lm : (us.map V.ref).length = es.length := by rw [List.length_map, lus]
            rw [lm, List.take_length] at R'
            refine ⟨nw', ⟨_, _, _, rfl⟩, bd, kvs', f', hFd', M', S', LE.trans LE', fun z hz h0 v s he => ?_, fun hn => ?_⟩
            · rcases (tk z).mp hz with hz | rfl
              · obtain ⟨y, hy, ly⟩ := R z hz h0 v s he
                obtain ⟨y', hy', ly'⟩ := LE' v y hy
                exact ⟨y', hy', by omega⟩
              · obtain ⟨x', hx', lx'⟩ := LE z _ h0
                rw [fu] at hx'
                cases hx'
                obtain ⟨y, hy, ly⟩ := R' (v, s) ((me (v, s)).mpr he)
                exact ⟨y, hy, by have : y ≤ x + s := ly; omega⟩
            · obtain ⟨hn1, rfl⟩ := NN' hn
              refine ⟨(NN hn1).1, fun z hz x' hx' v s he => ?_⟩
              rcases (tk z).mp hz with hz | rfl
              · exact (NN hn1).2 z hz x' hx' v s he
              · rw [fu] at hx'
                cases hx'
                exact R' (v, s) ((me (v, s)).mpr he)
      · obtain ⟨nw, ⟨o6, o9, o10, rfl⟩, bc, kvs, f, hFc, M, S, LE, R, NN⟩ := e
        rw [lk, List.take_length] at R
        have hF5 : upd H4 st (.dK kN) Fd = some (.dK kvs) := by rw [upd_ne SF.symm]; exact hFc
        have bU := unL bc
        refine ⟨bc _ _ SF hSL, _, rfl, _, rfl, ?_⟩
        generalize upd H4 st (.dK kN) = H5 at hF5 bU ⊢
        cases nw with
        | false =>
          obtain ⟨rfl, RR⟩ := NN rfl
          rw [lk, List.take_length] at RR
          have fin := fixed NT S RR
          refine iteT ⟨_, rfl, hQ Fd kvs H5 hFd (keep3 bU) hF5 fun v hv => ?_⟩
          rw [M.vl, fin v hv]; rfl
        | true =>
          exact iteF ⟨⟨_, _, _, _, _, rfl⟩, bU, kvs, f, hF5, M, S, X0.next NT S R⟩
    · obtain ⟨⟨o6, o7, o8, o9, o10, rfl⟩, ba, kv0, f0, hFa, M0, S1, X0⟩ := e
      have fin := X0.all (by omega)
      refine ⟨_, rfl, hQ Fd kv0 H5 hFd (keep3 ba) hFa fun v hv => ?_⟩
      rw [M0.vl, fin v hv]; rfl
end
end MN
/-! pairs of words and new objects as a comprehension; words of at most two signs -/
namespace MN
open PySem PySem.Spec PyProof.Rows L2
/-- [(w, new object of w) for w in words] -/
theorem lc_pairsF {K : PySem.W.Frag} {l D : Addr} {H1 : Hp} {σ : L2.St} {vs : List Nat} {te : TE} {j : Nat} {Qd : Hp → Prop} {ws : List (List Nat)} (Gd : Hp → Addr → List Nat → Prop) (gs : ∀ {H H' : Hp} {F : Addr} {w : List Nat}, Gd H F w → Same H H' → Gd H' F w)
    (gp : ∀ {H : Hp} {F D : Addr} {w : List Nat} {xs : List V} {u : HO}, Gd H F w → F ≠ D → H D = some (.lst xs) → Gd (upd H D u) F w)
    (hl : SqL K H1 l (wordsV ws)) (hz : ws.length ≤ 1000) (hD : H1 D = none) (hw : ∀ x ∈ wordsV ws, wipe ((wipe σ vs).set j (some x)) vs = wipe σ vs)
    (he : ∀ v ∈ ws, ∀ H2, Same H1 H2 → ∀ Q : VK, (∀ F T H3, H2 F = none → Same H2 H3 → Gd H3 F v → H3 T = none → Q (.ref T) (upd H3 T (.tup [.str (wS v), .ref F]))) → te ((wipe σ vs).set j (some (.str (wS v)))) H2 Q)
    (hd : ∀ (H' : Hp) (ts : List Addr) (kvs : List (Key × V)), Same H1 H' → H' D = some (.lst (ts.map V.ref)) → Paired (fun t (kv : Key × V) => H' t = some (.tup [kV kv.1, kv.2])) ts kvs → kvs.map (·.1) = ws.map (fun v => (Sum.inr (wS v) : Key)) → (∀ kv ∈ kvs, ∃ v ∈ ws, ∃ F, kv = (.inr (wS v), .ref F) ∧ Gd H' F v) → Qd H') :
    LcGoal (Itl K l) (gName j) tYes te vs σ H1 D Qd := by
  have lw1 : (wordsV ws).length = ws.length := by simp [wordsV]
  refine lc_it walk_list (fun i H' => Same H1 H' ∧ ∃ (ts : List Addr) (kvs : List (Key × V)), H' D = some (.lst (ts.map V.ref)) ∧ ts.length = i ∧ Paired (fun t (kv : Key × V) => H' t = some (.tup [kV kv.1, kv.2])) ts kvs ∧ kvs.map (·.1) = (ws.take i).map (fun v => (Sum.inr (wS v) : Key)) ∧ ∀ kv ∈ kvs, ∃ v ∈ ws, ∃ F, kv = (.inr (wS v), .ref F) ∧ F ≠ D ∧ Gd H' F v) ⟨same_new hD, [], [], upd_same, rfl, .nil, by simp, by simp⟩ (fun i H' _ e => Same.seq e.1 hl) (fun i x Ha Hb hi e y => ?_) (fun H2 e => ?_)
  · obtain ⟨rfl, hx⟩ := y
    obtain ⟨ea, ts, kvs, hDa, lt, pr, keys, good⟩ := e
    have mx : x ∈ wordsV ws := List.mem_of_getElem? hx
    unfold wordsV at hx
    rw [List.getElem?_map] at hx
    obtain ⟨v, hv, rfl⟩ := Option.map_eq_some_iff.mp hx
    have mv := List.mem_of_getElem? hv
    refine ⟨hw _ mx, yes_q (iteT (he v mv _ ea _ fun F T Hc fF ec gd hT => ⟨ts.map V.ref, ?_, ?_, ?_, ts ++ [T], kvs ++ [(.inr (wS v), .ref F)], ?_, ?_, ?_, ?_, ?_⟩))⟩
    · exact same_new hT _ _ (ec _ _ hDa)
    · rw [List.length_map, lt]
      have : i < (wordsV ws).length := hi
      have : 100000 < sizeLine := by decide
      omega
    · intro b' u' q
      rw [upd_ne (ne_of_none q hD)]
      exact same_new hT _ _ (ec _ _ (ea _ _ q))
    · rw [upd_same, List.map_append]; rfl
    · rw [List.length_append, lt]; rfl
    · have f := same_new (o := .tup [.str (wS v), .ref F]) hT
      have nD : ∀ {t' : Addr} {xs : List V}, upd Hc T (.tup [.str (wS v), .ref F]) t' = some (.tup xs) → t' ≠ D := fun h z => by
        have := f _ _ (ec _ _ hDa)
        rw [z, this] at h
        cases h
      refine paired_snoc (L2.Paired.mapP pr fun t' kv q => ?_) ?_
      · have := f _ _ (ec _ _ q)
        rw [upd_ne (nD this)]; exact this
      · rw [upd_ne (nD upd_same)]; exact upd_same
    · rw [List.map_append, keys, List.take_add_one, hv, List.map_append]; rfl
    · have f := same_new (o := .tup [.str (wS v), .ref F]) hT
      have hDf := f _ _ (ec _ _ hDa)
      intro kv hkv
      rcases List.mem_append.mp hkv with hkv | hkv
      · obtain ⟨v', hv', F', rfl, nF, g'⟩ := good kv hkv
        exact ⟨v', hv', F', rfl, nF, gp (gs (gs g' ec) f) nF hDf⟩
      · rw [List.mem_singleton.mp hkv]
        have nF : F ≠ D := fun z => by rw [z, hDa] at fF; cases fF
        exact ⟨v, mv, F, rfl, nF, gp (gs gd f) nF hDf⟩
  · obtain ⟨e2, ts, kvs, hD2, lt, pr, keys, good⟩ := e
    rw [lw1, List.take_length] at keys
    exact hd H2 ts kvs e2 hD2 pr keys fun kv hkv => by
      obtain ⟨v, hv, F, e, _, g⟩ := good kv hkv
      exact ⟨v, hv, F, e, g⟩
/-- what stands at the keys of such a dict -/
theorem pairs_val {Gd : Addr → List Nat → Prop} {ws : List (List Nat)} {kvs : List (Key × V)} (keys : kvs.map (·.1) = ws.map (fun v => (Sum.inr (wS v) : Key))) (good : ∀ kv ∈ kvs, ∃ v ∈ ws, ∃ F, kv = (.inr (wS v), .ref F) ∧ Gd F v) : ∀ v ∈ ws, ∃ F, valV (mergeK [] kvs) (.inr (wS v)) = some (.ref F) ∧ Gd F v := fun v hv => by
  obtain ⟨x, hx⟩ := merge_has kvs [] (.inr (wS v)) (.inr (by rw [keys]; exact List.mem_map.mpr ⟨v, hv, rfl⟩))
  have := merge_val (Pk := fun k x => ∀ v, k = Sum.inr (wS v) → ∃ F, x = .ref F ∧ Gd F v) kvs [] (fun k x h => by cases h) (fun kv hkv v e => by
    obtain ⟨v', _, F, rfl, g⟩ := good kv hkv
    cases wS_inj (Sum.inr.inj e)
    exact ⟨F, rfl, g⟩) _ x hx v rfl
  obtain ⟨F, rfl, g⟩ := this
  exact ⟨F, hx, g⟩
/-- the words of at most two signs, as the law lists them -/
def rowW (M : List Nat) (a : Nat) : List (List Nat) := [a] :: M.map fun b => [a, b]
def twoW (M L : List Nat) : List (List Nat) := [] :: L.flatMap (rowW M)
theorem mem_twoW {M : List Nat} {v : List Nat} : v ∈ twoW M M ↔ v ∈ allU M 2 := by
  rw [mem_allU]
  unfold twoW rowW
  rw [List.mem_cons, List.mem_flatMap]
  constructor
  · rintro (rfl | ⟨a, ha, h⟩)
    · exact ⟨by simp, by simp⟩
    · rcases List.mem_cons.mp h with rfl | h
      · exact ⟨by simp, fun b hb => by rw [List.mem_singleton.mp hb]; exact ha⟩
      · obtain ⟨b, hb, rfl⟩ := List.mem_map.mp h
        refine ⟨by simp, fun x hx => ?_⟩
        rcases List.mem_cons.mp hx with rfl | hx
        · exact ha
        · rw [List.mem_singleton.mp hx]; exact hb
  · rintro ⟨h1, h2⟩
    match v, h1, h2 with
    | [], _, _ => exact .inl rfl
    | [a], _, h2 => exact .inr ⟨a, h2 a List.mem_cons_self, List.mem_cons_self⟩
    | [a, b], _, h2 => exact .inr ⟨a, h2 a List.mem_cons_self, List.mem_cons_of_mem _ (List.mem_map.mpr ⟨b, h2 b (List.mem_cons_of_mem _ List.mem_cons_self), rfl⟩)⟩
    | _ :: _ :: _ :: _, h1, _ => simp at h1
theorem twoW_nd {M : List Nat} (nM : M.Nodup) : ∀ {L : List Nat}, L.Nodup → (twoW M L).Nodup := by
  have flat : ∀ {L : List Nat}, L.Nodup → (L.flatMap (rowW M)).Nodup := by
    intro L
    induction L with
    | nil => intro _; exact List.nodup_nil
    | cons a L ih =>
      intro h
      rw [List.nodup_cons] at h
      rw [List.flatMap_cons, List.nodup_append]
      refine ⟨?_, ih h.2, fun x hx y hy e => ?_⟩
      · unfold rowW
        rw [List.nodup_cons]
        refine ⟨fun q => ?_, nodup_map (fun x y e => by injection e with _ e; injection e) nM⟩
        obtain ⟨b, _, e⟩ := List.mem_map.mp q
        cases e
      · subst e
        obtain ⟨b, hb, hy⟩ := List.mem_flatMap.mp hy
        have h1 : ∀ {c : Nat} {z : List Nat}, z ∈ rowW M c → z.head? = some c := fun h => by
          rcases List.mem_cons.mp h with rfl | h
          · rfl
          · obtain ⟨_, _, rfl⟩ := List.mem_map.mp h; rfl
        have h2 := (h1 hx).symm.trans (h1 hy)
        cases h2
        exact h.1 hb
  intro L h
  unfold twoW
  rw [List.nodup_cons]
  refine ⟨fun q => ?_, flat h⟩
  obtain ⟨a, _, h⟩ := List.mem_flatMap.mp q
  rcases List.mem_cons.mp h with h | h
  · cases h
  · obtain ⟨_, _, e⟩ := List.mem_map.mp h
    cases e
theorem twoW_len (M L : List Nat) : (twoW M L).length = 1 + L.length * (M.length + 1) := by
  unfold twoW
  rw [List.length_cons]
  have : (L.flatMap (rowW M)).length = L.length * (M.length + 1) := by
    induction L with
    | nil => simp
    | cons a L ih => rw [List.flatMap_cons, List.length_append, ih, List.length_cons, Nat.add_mul, Nat.one_mul]; unfold rowW; rw [List.length_cons, List.length_map]; omega
  omega
theorem twoW_snoc (M L : List Nat) (a : Nat) : twoW M (L ++ [a]) = twoW M L ++ rowW M a := by
  unfold twoW
  rw [List.flatMap_append, List.flatMap_cons, List.flatMap_nil, List.append_nil]; rfl
end MN
/-! _law_closed of k03 -/
namespace MN
open PySem PySem.Spec PyProof.Rows L2
def catV (s : Str) : V → V
  | .str z => .str (s ++ z)
  | x => x
theorem cat_words {ys : List Str} (sg : ∀ z ∈ ys, ∃ c ∈ ("abcde" : Str).cps.toList, z = ⟨#[c]⟩) (a : Nat) : ((strsV ys).filter fun _ => true).map (catV (sgS a)) = wordsV ((codesOf ys).map fun b => [a, b]) := by
  rw [filter_all]
  unfold strsV wordsV codesOf
  rw [List.map_map, List.map_map, List.map_map]
  refine List.map_congr_left fun y hy => ?_
  show V.str (sgS a ++ y) = V.str (wS [a, codeOf y])
  rw [show wS [a, codeOf y] = wS [a] ++ wS [codeOf y] by rw [wS_app]; rfl]
  rw [show wS [codeOf y] = y from nS_code (sg y hy)]
  rfl
theorem cat_words' {a : Str} (ys : List Str) : ((strsV ys).filter fun _ => true).map (catV a) = (strsV ys).map (catV a) := by rw [filter_all]
theorem ones_words {ys : List Str} (sg : ∀ z ∈ ys, ∃ c ∈ ("abcde" : Str).cps.toList, z = ⟨#[c]⟩) : V.str "" :: strsV ys = wordsV ([] :: (codesOf ys).map fun a => [a]) := by
  unfold strsV wordsV codesOf
  rw [List.map_cons, List.map_map, List.map_map]
  refine congrArg (List.cons (V.str "")) (List.map_congr_left fun y hy => ?_)
  show V.str y = V.str (wS [codeOf y])
  rw [show wS [codeOf y] = y from nS_code (sg y hy)]
theorem pairsT_app {H : Hp} {ts ts2 : List Addr} {k k2 : List (List Key × V)} (h : PairsT H ts k) (h2 : PairsT H ts2 k2) : PairsT H (ts ++ ts2) (k ++ k2) := paired_app h h2
theorem FAt.putL {H : Hp} {F D : Addr} {es : List (List Nat × Int)} {xs : List V} {u : HO} (h : FAt H F es) (n : F ≠ D) (hD : H D = some (.lst xs)) : FAt (upd H D u) F es := by
  obtain ⟨ts, h1, h2⟩ := h
  refine ⟨ts, by rw [upd_ne n]; exact h1, L2.Paired.mapP h2 fun t e q => ?_⟩
  rw [upd_ne (fun z => by rw [z, hD] at q; cases q)]; exact q
theorem nS_wS (x : Nd) : nS x = wS x.toList := by cases x <;> rfl
theorem Dc_nd {L : List Nat} {r : Nd → Nd → Option Int} {c : Nd → Nd → Int} (C : Clo L r c) {x y : Nd} (hx : InL L x) (hy : InL L y) : Dc c x.toList.reverse y.toList.reverse = c x y := by
  cases x with
  | none =>
    cases y with
    | none => rw [C.z]; simp [Dc]
    | some b => exact Dc_put1 b
  | some a =>
    cases y with
    | none => exact Dc_out1 a
    | some b => exact Dc_swp1 C (hx a rfl) (hy b rfl)
section
variable {P : Program} {w : World} {K : PySem.W.Frag} {mg : Str → Option Value} {base : Heap}
def spClosed3 : Sp := fun vs H Q _ => ∃ t zs zs2 g o ps, vs = [.ref t] ∧ Rec H t zs zs2 g o ps ∧ PrN zs zs2 g o ps ∧
  ∀ t' ys c cps H', Same H H' → Clo (codesOf zs) (rOf (codesOf zs) g o ps) c → ys.Perm zs → (ys.Pairwise fun a b => sL a < sL b) → Rec H' t' ys ys (gC c) (oC c) cps → AllP ys (sC c) cps → PrN ys ys (gC c) (oC c) cps → Q (.ref t') H'
abbrev N_law_closed : List Str := ["_law_tables_here", "_law_signs_here", "_law_words", "_law_one", "_law_other", "_law_steps", "_law_word", "_law_costs_here", "_law_swaps", "_law_puts", "_law_sign"]
theorem sc_law_closed : FnScope N_law_closed ["_law_tables_here"] (defScope (top 37)) := ⟨rfl, rfl, rfl, by decide +kernel, rfl, by decide +kernel, by decide +kernel⟩
theorem c_law_closed3 (A : At K mg "_law_closed" (top 37)) (B : Blt mg) (c_law_behind : Cal P w K mg base 1 "_law_behind" spBehind3) (c_law_costs : Cal P w K mg base 1 "_law_costs" spCosts3) : Cal P w K mg base 2 "_law_closed" spClosed3 := by
  refine cal_of A sc_law_closed (fun _ _ _ _ _ _ us hl => match us, hl with | [_], _ => rfl) (fun vs H Q E h => ?_) (fun _ cdv A outer s H vs Q E hr h => ?_)
  · obtain ⟨_, _, _, _, _, _, rfl, _⟩ := h; rfl
  · obtain ⟨t, zs, zs2, g, o, ps, rfl, RC, N, hQ⟩ := h
    refine ⟨_, (pss_cons (ps_par (i := 1) (j := 2) (by rfl) sc_law_closed.nd rfl rfl (by decide) rfl rfl (pa_cons (pe_callB (call_sortedD rfl) (by rfl) B.sorted (by decide +kernel) (pa_cons (pe_ix ix_list (pv 0) pe_int (fun _ _ => rfl)) pa_nil)) (pa_cons (pe_lst (pa_cons pe_str pa_nil)) pa_nil)) (by rfl))
      (pss_cons (ps_for PassesOwn.never rfl (pi_list (pv 1)) (pg_name (i := 3) sc_law_closed.nd rfl (Or.inr rfl))
        (pss_one (ps_set (i := 2) sc_law_closed.nd rfl (Or.inl rfl) (pe_op op_cat (pe_op op_cat (pv 2) (pe_lst (pa_cons (pv 3) pa_nil))) (pe_lc (own := [("_law_other", 4)]) (g := gName 4) (tt := tYes) (by rfl) sc_law_closed.nd (pi_list (pv 1)) (blkOk_by (own := [("_law_other", 4)]) (N := N_law_closed) (sc := defScope (top 37)) (by decide +kernel)) (fun _ _ _ _ _ => (pg_name (i := 4) sc_law_closed.nd rfl (Or.inl rfl))) (fun _ _ _ _ _ => pts_nil) (fun _ _ _ _ _ => (pe_op op_add_str (pv 3) (pv 4))))))))
      (pss_cons (ps_set (i := 5) sc_law_closed.nd rfl (Or.inr rfl) (pe_callTy (call_dictP rfl) (by rfl) B.dict (by decide +kernel) (pa_cons (pe_lc (own := [("_law_word", 6)]) (g := gName 6) (tt := tYes) (by rfl) sc_law_closed.nd (pi_list (pv 2)) (blkOk_by (own := [("_law_word", 6)]) (N := N_law_closed) (sc := defScope (top 37)) (by decide +kernel)) (fun _ _ _ _ _ => (pg_name (i := 6) sc_law_closed.nd rfl (Or.inl rfl))) (fun _ _ _ _ _ => pts_nil) (fun _ _ _ _ _ => (pe_tup (pa_cons (pv 6) (pa_cons (pe_c c_law_behind hr (by decide) (by rfl) (pa_cons (pv 0) (pa_cons (pv 6) pa_nil))) pa_nil))))) pa_nil)))
      (pss_cons (ps_set (i := 7) sc_law_closed.nd rfl (Or.inr rfl) (pe_callTy (call_dictP rfl) (by rfl) B.dict (by decide +kernel) (pa_cons (pe_lc (own := [("_law_word", 6)]) (g := gName 6) (tt := tYes) (by rfl) sc_law_closed.nd (pi_list (pe_op op_cat (pe_lst (pa_cons pe_str pa_nil)) (pv 1))) (blkOk_by (own := [("_law_word", 6)]) (N := N_law_closed) (sc := defScope (top 37)) (by decide +kernel)) (fun _ _ _ _ _ => (pg_name (i := 6) sc_law_closed.nd rfl (Or.inl rfl))) (fun _ _ _ _ _ => pts_nil) (fun _ _ _ _ _ => (pe_tup (pa_cons (pv 6) (pa_cons (pe_c c_law_costs hr (by decide) (by rfl) (pa_cons (pv 5) (pa_cons (pv 6) pa_nil))) pa_nil))))) pa_nil)))
      (pss_cons (ps_set (i := 8) sc_law_closed.nd rfl (Or.inl rfl) (pe_lst pa_nil))
      (pss_cons (ps_for PassesOwn.never rfl (pi_list (pv 1)) (pg_name (i := 3) sc_law_closed.nd rfl (Or.inr rfl))
        (pss_one (ps_expr (pe_bm PySem.F.plainAttrs_list PySem.F.slot_list_extend PySem.F.type_list_extend mt_extend (pv 8) (pa_cons (pe_lc (own := [("_law_other", 4)]) (g := gName 4) (by rfl) sc_law_closed.nd (pi_list (pv 1)) (blkOk_by (own := [("_law_other", 4)]) (N := N_law_closed) (sc := defScope (top 37)) (by decide +kernel)) (fun _ _ _ _ _ => (pg_name (i := 4) sc_law_closed.nd rfl (Or.inl rfl))) (fun _ _ _ _ _ => pts_one (pt_cmpR op_ne (pv 3) (pv 4) (nomark _))) (fun _ _ _ _ _ => (pe_tup (pa_cons (pe_tup (pa_cons (pv 3) (pa_cons (pv 4) pa_nil))) (pa_cons (pe_dget (hu_of hr) (pe_dget (hu_of hr) (pv 7) (pv 3) (fun _ _ => rfl)) (pv 4) (fun _ _ => rfl)) pa_nil))))) pa_nil)))))
      (pss_cons (ps_set (i := 9) sc_law_closed.nd rfl (Or.inl rfl) (pe_callTy (call_dictP rfl) (by rfl) B.dict (by decide +kernel) (pa_cons (pe_lc (own := [("_law_sign", 10)]) (g := gName 10) (tt := tYes) (by rfl) sc_law_closed.nd (pi_list (pv 1)) (blkOk_by (own := [("_law_sign", 10)]) (N := N_law_closed) (sc := defScope (top 37)) (by decide +kernel)) (fun _ _ _ _ _ => (pg_name (i := 10) sc_law_closed.nd rfl (Or.inl rfl))) (fun _ _ _ _ _ => pts_nil) (fun _ _ _ _ _ => (pe_tup (pa_cons (pv 10) (pa_cons (pe_dget (hu_of hr) (pe_dget (hu_of hr) (pv 7) pe_str (fun _ _ => rfl)) (pv 10) (fun _ _ => rfl)) pa_nil))))) pa_nil)))
      (pss_one (ps_ret (pe_lst (pa_cons (pv 9) (pa_cons (pe_callTy (call_dictP rfl) (by rfl) B.dict (by decide +kernel) (pa_cons (pe_lc (own := [("_law_sign", 10)]) (g := gName 10) (tt := tYes) (by rfl) sc_law_closed.nd (pi_list (pv 1)) (blkOk_by (own := [("_law_sign", 10)]) (N := N_law_closed) (sc := defScope (top 37)) (by decide +kernel)) (fun _ _ _ _ _ => (pg_name (i := 10) sc_law_closed.nd rfl (Or.inl rfl))) (fun _ _ _ _ _ => pts_nil) (fun _ _ _ _ _ => (pe_tup (pa_cons (pv 10) (pa_cons (pe_dget (hu_of hr) (pe_dget (hu_of hr) (pv 7) (pv 10) (fun _ _ => rfl)) pe_str (fun _ _ => rfl)) pa_nil))))) pa_nil)) (pa_cons (pe_callTy (call_dictPT rfl hr.units) (by rfl) B.dict (by decide +kernel) (pa_cons (pv 8) pa_nil)) pa_nil))))))))))))), ?_⟩
    have one : 1 ≤ sizeLine := by decide
    have two : 2 ≤ sizeLine := by decide
    have three : 3 ≤ sizeLine := by decide
    have big : 100000 < sizeLine := by decide
    obtain ⟨c, C⟩ := clo_exists N
    obtain ⟨RA, RB, RS, ht, hA, hB, hS⟩ := id RC
    have l5 := N.le
    refine ⟨_, rfl, t, _, _, _, rfl, rfl, SqL.of ht, rfl, RA, _, zs, rfl, .inl hA, dkF_keys zs g, by omega, fun ys q1 hys hso hq1 => ⟨one, fun w0 hw0 => ⟨_, _, rfl, ?_⟩⟩⟩
    have asc := sorted_sL (fun z hz => N.sg z (hys.mem_iff.mp hz)) (hys.nodup_iff.mpr N.nd) hso
    have sgY : ∀ z ∈ ys, ∃ c ∈ ("abcde" : Str).cps.toList, z = ⟨#[c]⟩ := fun z hz => N.sg z (hys.mem_iff.mp hz)
    have ndY : ys.Nodup := hys.nodup_iff.mpr N.nd
    have lY := hys.length_eq
    have s1 := same_new (o := .lst (ys.map V.str)) hq1
    have u1 : upd H q1 (.lst (ys.map V.str)) q1 = some (.lst (strsV ys)) := upd_same
    generalize upd H q1 (.lst (ys.map V.str)) = H0 at s1 u1 hw0 ⊢
    have s2 := s1.trans (same_new (o := .lst [.str ""]) hw0)
    have u2 := same_new (o := .lst [.str ""]) hw0 _ _ u1
    have v2 : upd H0 w0 (.lst [.str ""]) w0 = some (.lst (wordsV (twoW (codesOf ys) []))) := upd_same
    generalize upd H0 w0 (.lst [.str ""]) = H1 at s2 u2 v2 ⊢
    clear s1 u1 hw0 hq1
    have lL : (codesOf ys).length = ys.length := by simp [codesOf]
    -- the words
    refine ⟨_, rfl, q1, rfl, ⟨_, SqL.of u2⟩, for_it walk_list (fun i σ H' => (∃ w o3, σ = [some (.ref t), some (.ref q1), some (.ref w), o3, none, none, none, none, none, none, none] ∧ H' w = some (.lst (wordsV (twoW (codesOf ys) ((codesOf ys).take i))))) ∧ Same H1 H') ⟨⟨w0, _, rfl, v2⟩, Same.refl _⟩ (fun i σ H' _ e => SqL.of (e.2 _ _ u2)) (fun i v σ Ha Hb hi e hv => ?_) (fun σ H2 e => ?_)⟩
    · obtain ⟨rfl, hv⟩ := hv
      obtain ⟨⟨wd, o3, rfl, hwd⟩, ea⟩ := e
      have hi' : i < ys.length := by have : i < (strsV ys).length := hi; simpa [strsV] using this
      have gi := List.getElem?_eq_getElem hi'
      unfold strsV at hv
      rw [List.getElem?_map, gi] at hv
      cases hv
      have tl : (twoW (codesOf ys) ((codesOf ys).take i)).length ≤ 100 := by
        rw [twoW_len, List.length_take]
        have : min i (codesOf ys).length * ((codesOf ys).length + 1) ≤ 5 * 6 := Nat.mul_le_mul (by omega) (by omega)
        omega
      refine ⟨_, rfl, _, rfl, one, fun a1 ha1 => ⟨wd, a1, _, _, rfl, rfl, same_new ha1 _ _ hwd, upd_same, by simp only [wordsV, List.length_map]; show _ + 1 ≤ sizeLine; omega, fun a2 ha2 => ?_⟩⟩
      have f1 := (same_new (o := .lst [.str ys[i]]) ha1).trans (same_new (o := .lst (wordsV (twoW (codesOf ys) ((codesOf ys).take i)) ++ [.str ys[i]])) ha2)
      have v3 : upd (upd Hb a1 (.lst [.str ys[i]])) a2 (.lst (wordsV (twoW (codesOf ys) ((codesOf ys).take i)) ++ [.str ys[i]])) a2 = some (.lst (wordsV (twoW (codesOf ys) ((codesOf ys).take i)) ++ [.str ys[i]])) := upd_same
      generalize upd (upd Hb a1 (.lst [.str ys[i]])) a2 (.lst (wordsV (twoW (codesOf ys) ((codesOf ys).take i)) ++ [.str ys[i]])) = Hc at f1 v3 ⊢
      have eb := ea.trans f1
      have mi : ys[i] ∈ ys := List.getElem_mem hi'
      obtain ⟨a, hza⟩ : ∃ a, ys[i] = sgS a := ⟨codeOf ys[i], (nS_code (sgY _ mi)).symm⟩
      refine ⟨_, rfl, q1, rfl, ⟨_, SqL.of (eb _ _ u2)⟩, fun D hD => lc_lstE (SqL.of (eb _ _ u2)) hD (by simp [strsV]; omega) (fun _ => true) (catV ys[i]) (fun x _ => by kernel_rfl) (fun x _ H2 e2 Q q => q _ (Same.refl _)) (fun x hx _ H2 e2 Q q => ?_) (fun Hd ed hDd => ?_)⟩
      · obtain ⟨z, hz, rfl⟩ := List.mem_map.mp hx
        exact ⟨_, rfl, _, rfl, _, _, rfl, rfl, by rw [len_one (sgY _ mi), len_one (sgY _ hz)]; exact two, q _ (Same.refl _)⟩
      · refine ⟨a2, D, _, _, rfl, rfl, ed _ _ v3, hDd, by rw [cat_words' ys]; simp only [wordsV, List.length_map, List.length_append, strsV]; show _ + 1 + _ ≤ sizeLine; omega, fun a4 ha4 => ?_⟩
        rw [hza, cat_words sgY a]
        have fa := same_new (o := .lst (wordsV (twoW (codesOf ys) ((codesOf ys).take i)) ++ [V.str (sgS a)] ++ wordsV ((codesOf ys).map fun b => [a, b]))) ha4
        refine ⟨⟨a4, _, rfl, ?_⟩, (eb.trans ed).trans fa⟩
        rw [upd_same, List.take_add_one]
        have gc : (codesOf ys)[i]? = some a := by
          unfold codesOf
          rw [List.getElem?_map, gi, hza]; rfl
        rw [gc, Option.toList_some, twoW_snoc]
        unfold wordsV rowW
        rw [List.map_append, List.map_cons, List.append_assoc]
        rfl
    obtain ⟨⟨wd, o3, rfl, hwd⟩, e12⟩ := e
    have lsY : (strsV ys).length = (codesOf ys).length := by simp [strsV, codesOf]
    rw [lsY, List.take_length] at hwd
    have ndC : (codesOf ys).Nodup := codes_nodup sgY ndY
    have inY : ∀ a, a ∈ codesOf ys ↔ a ∈ codesOf zs := fun a => (hys.map _).mem_iff
    have wN : (twoW (codesOf ys) (codesOf ys)).Nodup := twoW_nd ndC ndC
    have hWm : ∀ v, v ∈ twoW (codesOf ys) (codesOf ys) ↔ v ∈ allU (codesOf zs) 2 := fun v => by
      rw [mem_twoW, mem_allU, mem_allU]
      exact and_congr Iff.rfl ⟨fun h a ha => (inY a).mp (h a ha), fun h a ha => (inY a).mpr (h a ha)⟩
    have wl : (twoW (codesOf ys) (codesOf ys)).length ≤ 1000 := by
      rw [twoW_len]
      have : (codesOf ys).length * ((codesOf ys).length + 1) ≤ 5 * 6 := Nat.mul_le_mul (by omega) (by omega)
      omega
    generalize hW : twoW (codesOf ys) (codesOf ys) = W at hwd wN hWm wl
    have E2 := s2.trans e12
    have u2' := e12 _ _ u2
    clear s2 e12 u2 v2
    -- the steps
    refine ⟨_, rfl, wd, rfl, ⟨_, SqL.of hwd⟩, fun D hD => ?_⟩
    refine lc_pairsF (fun H F v => ∃ es, FAt H F es ∧ es.length ≤ 1000 ∧ ∀ e, e ∈ es ↔ ∃ k, k ≤ v.length ∧ NearIt (codesOf zs) g o ps v 2 k e) (fun h e => h.imp fun es q => ⟨q.1.same e, q.2⟩) (fun h n q => h.imp fun es r => ⟨r.1.putL n q, r.2⟩) (SqL.of hwd) wl hD (fun _ _ => by kernel_rfl) (fun v hv H3 e3 Q q => ?_) (fun H3 ts kvs e3 hD3 pr keys good => ⟨D, ts, kvs, rfl, SqL.of hD3, L2.Paired.mapP pr fun _ _ q => .inl (.inl q), fun NH hNH => ?_⟩)
    · obtain ⟨lv, ov⟩ := mem_allU.mp ((hWm v).mp hv)
      exact ⟨_, rfl, _, rfl, _, rfl, t, zs, zs2, g, o, ps, v, rfl, RC.same (E2.trans e3), N, ov, lv, fun F es H4 fF e4 FA le me => ⟨two, fun T hT => q F T H4 fF e4 ⟨es, FA, le, me⟩ hT⟩⟩
    have pv3 := pairs_val keys good
    have nk : (kvs.map (·.1)).Nodup := by
      rw [keys]
      exact nodup_map (fun a b e => wS_inj (Sum.inr.inj e)) wN
    rw [show mergeK [] kvs = kvs from mergeK_nodup (more := kvs) [] nk] at pv3 ⊢
    have e34 := e3.trans (same_new (o := .dK kvs) hNH)
    have St : Steps3 (upd H3 NH (.dK kvs)) NH W zs g o ps := ⟨kvs, upd_same, keys, fun v hv => by
      obtain ⟨F, h1, es, h2, h3⟩ := pv3 v hv
      exact ⟨F, es, h1, h2.same (same_new hNH), h3⟩⟩
    generalize upd H3 NH (.dK kvs) = H4 at e34 St ⊢
    have E4 := E2.trans e34
    have u4 := e34 _ _ u2'
    clear hD e3 hD3 pr keys good pv3 nk hNH e34 u2' E2 hwd
    -- the costs
    refine ⟨one, fun a1 ha1 => ⟨_, rfl, a1, q1, _, _, rfl, rfl, upd_same, same_new ha1 _ _ u4, by show 1 + _ ≤ sizeLine; simp [strsV]; omega, fun a2 ha2 => ?_⟩⟩
    have f5 := (same_new (o := .lst [.str ""]) ha1).trans (same_new (o := .lst ([.str ""] ++ strsV ys)) ha2)
    have v5 : upd (upd H4 a1 (.lst [.str ""])) a2 (.lst ([.str ""] ++ strsV ys)) a2 = some (.lst (wordsV ([] :: (codesOf ys).map fun a => [a]))) := by rw [upd_same, ← ones_words sgY]; rfl
    generalize upd (upd H4 a1 (.lst [.str ""])) a2 (.lst ([.str ""] ++ strsV ys)) = H5 at f5 v5 ⊢
    have E5 := E4.trans f5
    have u5 := f5 _ _ u4
    have St5 := St.same f5
    clear f5 ha1 ha2 u4 St E4
    have in2 : ∀ v ∈ ([] :: (codesOf ys).map fun a => [a]), v ∈ W := fun v hv => by
      rw [hWm v, mem_allU]
      rcases List.mem_cons.mp hv with rfl | hv
      · exact ⟨by simp, by simp⟩
      · obtain ⟨a, ha, rfl⟩ := List.mem_map.mp hv
        exact ⟨by simp, fun b hb => by rw [List.mem_singleton.mp hb]; exact (inY a).mp ha⟩
    refine ⟨a2, rfl, ⟨_, SqL.of v5⟩, fun D hD => ?_⟩
    refine lc_pairsF (fun H F b => ∃ kv, H F = some (.dK kv) ∧ ∀ v ∈ W, valV kv (.inr (wS v)) = some (.int (Dc c b.reverse v.reverse))) (fun h e => h.imp fun kv q => ⟨e _ _ q.1, q.2⟩) (fun h n q => h.imp fun kv r => ⟨by rw [upd_ne n]; exact r.1, r.2⟩) (SqL.of v5) (by rw [List.length_cons, List.length_map]; omega) hD (fun _ _ => by kernel_rfl) (fun v hv H6 e6 Q q => ?_) (fun H6 ts kvs e6 hD6 pr keys good => ⟨D, ts, kvs, rfl, SqL.of hD6, L2.Paired.mapP pr fun _ _ q => .inl (.inl q), fun CD hCD => ?_⟩)
    · exact ⟨_, rfl, _, rfl, _, rfl, NH, v, zs, zs2, g, o, ps, c, W, rfl, St5.same e6, N, C, hWm, wl, in2 v hv, fun Fd kv H7 fF e7 hFd hval => ⟨two, fun T hT => q Fd T H7 fF e7 ⟨kv, hFd, hval⟩ hT⟩⟩
    have pv6 := pairs_val keys good
    generalize mergeK [] kvs = kC at pv6 ⊢
    have e67 := e6.trans (same_new (o := .dK kC) hCD)
    have look : ∀ {x : Nd}, InL (codesOf zs) x → ∃ F, valV kC (.inr (nS x)) = some (.ref F) ∧ ∃ kv, upd H6 CD (.dK kC) F = some (.dK kv) ∧ ∀ y, InL (codesOf zs) y → valV kv (.inr (nS y)) = some (.int (c x y)) := fun {x} hx => by
      have hxw : x.toList ∈ ([] :: (codesOf ys).map fun a => [a]) := by
        cases x with
        | none => exact List.mem_cons_self
        | some a => exact List.mem_cons_of_mem _ (List.mem_map.mpr ⟨a, (inY a).mpr (hx a rfl), rfl⟩)
      obtain ⟨F, h1, kv, h2, h3⟩ := pv6 _ hxw
      refine ⟨F, by rw [nS_wS]; exact h1, kv, same_new hCD _ _ h2, fun y hy => ?_⟩
      have hyw : y.toList ∈ W := by
        rw [hWm, mem_allU]
        cases y with
        | none => exact ⟨by simp, by simp⟩
        | some a => exact ⟨by simp, fun b hb => by rw [List.mem_singleton.mp hb]; exact hy a rfl⟩
      rw [nS_wS, h3 _ hyw, Dc_nd C hx hy]
    have uC : upd H6 CD (.dK kC) CD = some (.dK kC) := upd_same
    generalize upd H6 CD (.dK kC) = H7 at e67 look uC ⊢
    have E7 := E5.trans e67
    have u7 := e67 _ _ u5
    clear hD e6 hD6 pr keys good pv6 hCD e67 u5 E5 v5 St5 in2
    have inS : ∀ {z}, z ∈ ys → InL (codesOf zs) (some (codeOf z)) := fun hz => InL.of ((inY _).mp (code_mem sgY hz))
    have nz : ∀ {z}, z ∈ ys → nS (some (codeOf z)) = z := fun {z} hz => nS_code (sgY z hz)
    -- the swaps
    refine ⟨Nat.zero_le _, fun L hL => ?_⟩
    have keepL : ∀ {qs : List SP2} {i j : Nat}, PreP ys (sC c) i j qs → qs.length ≤ 25 := fun {qs i j} P => by
      have := P.len
      have : ys.length * ys.length ≤ 5 * 5 := Nat.mul_le_mul (by omega) (by omega)
      omega
    have lz : (strsV ys).length = ys.length := by simp [strsV]
    refine ⟨_, rfl, q1, rfl, ⟨_, SqL.of (same_new hL _ _ u7)⟩, for_it walk_list (fun i σ H' => (∃ o3, σ = [some (.ref t), some (.ref q1), some (.ref wd), o3, none, some (.ref NH), none, some (.ref CD), some (.ref L), none, none]) ∧ Same H7 H' ∧ ∃ (ts : List Addr) (ps : List SP2), H' L = some (.lst (ts.map V.ref)) ∧ PairsT H' ts (dtF ps) ∧ ts.length = ps.length ∧ PreP ys (sC c) i 0 ps)
      ⟨⟨_, rfl⟩, same_new hL, [], [], upd_same, .nil, rfl, by simp, fun e => by simp⟩ (fun i σ H' _ e => SqL.of (e.2.1 _ _ u7)) (fun i y σ Ha Hb hi e hy => ?_) (fun σ H8 e => ?_)⟩
    · obtain ⟨rfl, hy⟩ := hy
      obtain ⟨⟨o3, rfl⟩, ea, ts, ps, hLa, PT, ltp, PP⟩ := e
      have hi' : i < ys.length := by rw [← lz]; exact hi
      have gi := List.getElem?_eq_getElem hi'
      unfold strsV at hy
      rw [List.getElem?_map, gi] at hy
      cases hy
      have mi : ys[i] ∈ ys := List.getElem_mem hi'
      refine ⟨_, rfl, .inl ⟨rfl, _, SqL.of hLa⟩, _, rfl, q1, rfl, ⟨_, SqL.of (ea _ _ u7)⟩, fun D hD => ?_⟩
      refine lc_it walk_list (fun j H' => Same Hb H' ∧ ∃ (ts2 : List Addr) (ps2 : List SP2), H' D = some (.lst (ts2.map V.ref)) ∧ PairsT H' ts2 (dtF ps2) ∧ ts2.length = ps2.length ∧ PreP ys (sC c) i j (ps ++ ps2)) ⟨same_new hD, [], [], upd_same, .nil, rfl, by rw [List.append_nil]; exact PP⟩ (fun j H' _ e => SqL.of (e.1 _ _ (ea _ _ u7))) (fun j y2 Hq Hc hj e hy => ?_) (fun Hc e => ?_)
      · obtain ⟨rfl, hy⟩ := hy
        obtain ⟨eb, ts2, ps2, hD2, PT2, lt2, PP2⟩ := e
        have hj' : j < ys.length := by rw [← lz]; exact hj
        have gj := List.getElem?_eq_getElem hj'
        unfold strsV at hy
        rw [List.getElem?_map, gj] at hy
        cases hy
        have mj : ys[j] ∈ ys := List.getElem_mem hj'
        refine ⟨rfl, _, rfl, _, rfl, rfl, _, rfl, ?_⟩
        by_cases ne : ys[i] = ys[j]
        · rw [show (!decide (V.str ys[i] = V.str ys[j])) = false by simp [ne]]
          exact iteF ⟨eb, ts2, ps2, hD2, PT2, lt2, PP2.skip gi (by rw [gj, ne])⟩
        · rw [show (!decide (V.str ys[i] = V.str ys[j])) = true by simp [ne]]
          obtain ⟨F, vF, kv, hF, hval⟩ := look (inS mi)
          have hval := hval _ (inS mj)
          rw [nz mi] at vF
          rw [nz mj] at hval
          have eab := ea.trans eb
          refine iteT ⟨_, rfl, _, rfl, two, fun T1 hT1 => ?_⟩
          have g1 := eab.trans (same_new (o := .tup [.str ys[i], .str ys[j]]) hT1)
          refine ⟨_, rfl, _, rfl, CD, .ref F, rfl, .inl ⟨_, .inr ys[i], .inl (g1 _ _ uC), rfl, vF.symm⟩, _, rfl, F, .int (sC c ys[i] ys[j]), rfl, .inl ⟨_, .inr ys[j], .inl (g1 _ _ hF), rfl, hval.symm⟩, two, fun T2 hT2 => ⟨ts2.map V.ref, ?_, ?_, fun b u q => ?_, ts2 ++ [T2], ps2 ++ [((ys[i], ys[j]), sC c ys[i] ys[j])], by rw [upd_same, List.map_append]; rfl, ?_, by rw [List.length_append, List.length_append, lt2]; rfl, ?_⟩⟩
          · have h1 : upd Hc T1 (.tup [.str ys[i], .str ys[j]]) D = some (.lst (ts2.map V.ref)) := by rw [upd_ne (ne_of_none hD2 hT1)]; exact hD2
            rw [upd_ne (ne_of_none h1 hT2)]; exact h1
          · have := keepL PP2
            rw [List.length_append] at this
            rw [List.length_map]
            omega
          · have h1 := same_new (o := .tup [.str ys[i], .str ys[j]]) hT1 _ _ (eb _ _ q)
            rw [upd_ne (ne_of_none q hD), upd_ne (ne_of_none h1 hT2)]
            exact h1
          · have h1 : upd Hc T1 (.tup [.str ys[i], .str ys[j]]) D = some (.lst (ts2.map V.ref)) := by rw [upd_ne (ne_of_none hD2 hT1)]; exact hD2
            have h2 : upd (upd Hc T1 (.tup [.str ys[i], .str ys[j]])) T2 (.tup [.ref T1, .int (sC c ys[i] ys[j])]) D = some (.lst (ts2.map V.ref)) := by rw [upd_ne (ne_of_none h1 hT2)]; exact h1
            have t1 : TK Hc (upd Hc T1 (.tup [.str ys[i], .str ys[j]])) := fun b xs z => same_new hT1 _ _ z
            have t2 : TK (upd Hc T1 (.tup [.str ys[i], .str ys[j]])) (upd (upd Hc T1 (.tup [.str ys[i], .str ys[j]])) T2 (.tup [.ref T1, .int (sC c ys[i] ys[j])])) := fun b xs z => same_new hT2 _ _ z
            have t3 := TK.put (ys := ts2.map V.ref ++ [V.ref T2]) h2
            have := (PT2.tk ((t1.trans t2).trans t3)).snoc (k := [.inr ys[i], .inr ys[j]]) (t3 _ _ upd_same) (t3 _ _ (t2 _ _ upd_same))
            unfold dtF at this ⊢
            rw [List.map_append]
            exact this
          · rw [← List.append_assoc]
            exact (PP2.new ndY gi gj ne).1
      · obtain ⟨eb, ts2, ps2, hD2, PT2, lt2, PP2⟩ := e
        rw [lz] at PP2
        have hLc := eb _ _ hLa
        have l25 := keepL PP2
        rw [List.length_append] at l25
        refine ⟨L, D, _, _, rfl, rfl, hLc, hD2, by rw [List.length_map, List.length_map]; omega, ?_⟩
        rw [← List.map_append]
        have tk : TK Hc (upd Hc L (.lst ((ts ++ ts2).map V.ref))) := TK.put hLc
        refine ⟨⟨_, rfl⟩, fun b u q => by rw [upd_ne (ne_of_none q hL)]; exact eb _ _ (ea _ _ q), ts ++ ts2, ps ++ ps2, upd_same, ?_, by rw [List.length_append, List.length_append, ltp, lt2], PP2.row hi'⟩
        have p1 := PT.tk (fun b xs z => tk _ _ (eb _ _ z))
        have p2 := PT2.tk tk
        have e12 : dtF (ps ++ ps2) = dtF ps ++ dtF ps2 := by unfold dtF; rw [List.map_append]
        rw [e12]
        exact pairsT_app p1 p2
    obtain ⟨⟨o3, rfl⟩, e8, ts, cps, hL8, PT, ltp, PP⟩ := e
    rw [lz] at PP
    have AP := PP.all
    have E8 := E7.trans e8
    have u8 := e8 _ _ u7
    have uC8 := e8 _ _ uC
    replace look : ∀ {x : Nd}, InL (codesOf zs) x → ∃ F, valV kC (.inr (nS x)) = some (.ref F) ∧ ∃ kv, H8 F = some (.dK kv) ∧ ∀ y, InL (codesOf zs) y → valV kv (.inr (nS y)) = some (.int (c x y)) := fun hx => by
      obtain ⟨F, h1, kv, h2, h3⟩ := look hx
      exact ⟨F, h1, kv, e8 _ _ h2, h3⟩
    clear E7 e8 u7 uC hL
    -- put prices
    obtain ⟨F0, vF0, kv0, hF0, val0⟩ := look (x := none) InL.no
    refine ⟨_, rfl, q1, rfl, ⟨_, SqL.of u8⟩, fun D hD => ?_⟩
    refine lc_tabK (SqL.of u8) (by omega) (gC c) hD (fun _ _ => by kernel_rfl) (fun z hz H9 e9 Q q => ?_) (fun H9 ts9 e9 u9 pr9 => ⟨D, ts9, _, rfl, SqL.of u9, pr9, fun PA hPA => ?_⟩)
    · have hv := val0 _ (inS hz)
      rw [nz hz] at hv
      exact ⟨_, rfl, _, rfl, CD, .ref F0, rfl, .inl ⟨_, .inr "", .inl (e9 _ _ uC8), rfl, vF0.symm⟩, _, rfl, F0, .int (gC c z), rfl, .inl ⟨_, .inr z, .inl (e9 _ _ hF0), rfl, hv.symm⟩, two, fun T hT => q T hT⟩
    rw [show mergeK [] (dkF ys (gC c)) = dkF ys (gC c) from mergeK_nodup (more := dkF ys (gC c)) [] (dkF_nodup ndY _)]
    have s9 := e9.trans (same_new (o := .dK (dkF ys (gC c))) hPA)
    have uA : upd H9 PA (.dK (dkF ys (gC c))) PA = some (.dK (dkF ys (gC c))) := upd_same
    generalize upd H9 PA (.dK (dkF ys (gC c))) = H10 at s9 uA ⊢
    clear hD e9 u9 pr9 hPA
    -- out prices
    refine ⟨_, rfl, _, rfl, q1, rfl, ⟨_, SqL.of (s9 _ _ u8)⟩, fun D hD => ?_⟩
    refine lc_tabK (SqL.of (s9 _ _ u8)) (by omega) (oC c) hD (fun _ _ => by kernel_rfl) (fun z hz H11 e11 Q q => ?_) (fun H11 ts11 e11 u11 pr11 => ⟨D, ts11, _, rfl, SqL.of u11, pr11, fun PB hPB => ?_⟩)
    · obtain ⟨F, vF, kv, hF, hval⟩ := look (inS hz)
      have hv := hval none InL.no
      rw [nz hz] at vF
      exact ⟨_, rfl, _, rfl, _, rfl, CD, .ref F, rfl, .inl ⟨_, .inr z, .inl (e11 _ _ (s9 _ _ uC8)), rfl, vF.symm⟩, F, .int (oC c z), rfl, .inl ⟨_, .inr "", .inl (e11 _ _ (s9 _ _ hF)), rfl, hv.symm⟩, two, fun T hT => q T hT⟩
    rw [show mergeK [] (dkF ys (oC c)) = dkF ys (oC c) from mergeK_nodup (more := dkF ys (oC c)) [] (dkF_nodup ndY _)]
    have s11 := e11.trans (same_new (o := .dK (dkF ys (oC c))) hPB)
    have uB : upd H11 PB (.dK (dkF ys (oC c))) PB = some (.dK (dkF ys (oC c))) := upd_same
    generalize upd H11 PB (.dK (dkF ys (oC c))) = H12 at s11 uB ⊢
    clear hD e11 u11 pr11 hPB
    have s12 := s9.trans s11
    refine ⟨_, rfl, L, ts, dtF cps, rfl, s12 _ _ hL8, PT.tk fun b xs z => s12 _ _ z, dtF_nodup AP.nd, fun PS hPS => ⟨three, fun t' ht' => ?_⟩⟩
    have s13 := same_new (o := .dT (dtF cps)) hPS
    have s14 := same_new (o := .lst [.ref PA, .ref PB, .ref PS]) ht'
    have cy : Clo (codesOf ys) (rOf (codesOf ys) g o ps) c := (C.perm inY).congr fun x y _ _ => rOf_perm N.sn hys (List.Perm.refl _) x y
    have NY : PrN ys zs2 g o ps := N.perm hys (N.pm) (List.Perm.refl _)
    exact hQ t' ys c cps _ (((E8.trans s12).trans s13).trans s14) C hys asc ⟨PA, PB, PS, upd_same, s14 _ _ (s13 _ _ (s11 _ _ uA)), s14 _ _ (s13 _ _ uB), s14 _ _ upd_same⟩ AP (clo_good NY cy AP)
end
end MN
/-! equal records; closed records (plain law) -/
namespace MN
open PySem PySem.Spec PyProof.Rows L2
abbrev CloR (zs : List Str) (g o : Str → Int) (ps : List SP2) (c : Nd → Nd → Int) : Prop := Clo (codesOf zs) (rOf (codesOf zs) g o ps) c
theorem dkF_congr {ys : List Str} {g g' : Str → Int} (h : ∀ z ∈ ys, g z = g' z) : dkF ys g = dkF ys g' := by
  unfold dkF
  exact List.map_congr_left fun y hy => by rw [h y hy]
theorem PrN.congr {zs zs2 : List Str} {g o g' o' : Str → Int} {ps : List SP2} (N : PrN zs zs2 g o ps) (hg : ∀ z ∈ zs, g z = g' z) (ho : ∀ z ∈ zs, o z = o' z) : PrN zs zs2 g' o' ps :=
  { N with pg := fun z hz => by rw [← hg z hz]; exact N.pg z hz, po := fun z hz => by rw [← ho z hz]; exact N.po z hz }
theorem PrS.congr {Cp : Addr} {H : Hp} {x : Addr} {zs zs' : List Str} {g o g' o' : Str → Int} {ps ps' : List SP2} (h : PrS Cp H x zs g o ps) (pz : zs.Perm zs') (hg : ∀ z ∈ zs, g z = g' z) (ho : ∀ z ∈ zs, o z = o' z) (pp : ps.Perm ps') : PrS Cp H x zs' g' o' ps' := by
  obtain ⟨dx, ys, qs, ⟨A, B, S, ws, h1, h2, h3, h4, h5, hA, hB, hS⟩, N, pm, asc, pq, srt⟩ := h
  have g1 : ∀ z ∈ ys, g z = g' z := fun z hz => hg z (pm.mem_iff.mp hz)
  have o1 : ∀ z ∈ ys, o z = o' z := fun z hz => ho z (pm.mem_iff.mp hz)
  exact ⟨dx, ys, qs, ⟨A, B, S, ws, h1, h2, h3, h4, h5, by rw [← dkF_congr g1]; exact hA, by rw [← dkF_congr o1]; exact hB, hS⟩, N.congr g1 o1, pm.trans pz, asc, pq.trans pp, srt⟩
theorem nodup_of_map {α β : Type} (f : α → β) {l : List α} (h : (l.map f).Nodup) : l.Nodup := by
  rw [List.Nodup, List.pairwise_map] at h
  exact h.imp fun h e => h (by rw [e])
theorem AllP.perm2 {zs zs' : List Str} {h h' : Str → Str → Int} {qs qs' : List SP2} (A : AllP zs h qs) (A' : AllP zs' h' qs') (pz : ∀ z, z ∈ zs ↔ z ∈ zs') (e : ∀ a ∈ zs, ∀ b ∈ zs, a ≠ b → h a b = h' a b) : qs.Perm qs' := by
  rw [List.perm_ext_iff_of_nodup (nodup_of_map _ A.nd) (nodup_of_map _ A'.nd)]
  intro x
  rw [A.iff, A'.iff, ← pz, ← pz]
  refine and_congr_right fun h1 => and_congr_right fun h2 => and_congr_right fun h3 => ?_
  rw [e _ h1 _ h2 h3]
theorem eqKv_iff {κ : Type} [DecidableEq κ] {ks ls : List (κ × Int)} (nk : (ks.map (·.1)).Nodup) (nl : (ls.map (·.1)).Nodup) : eqKv ks ls = true ↔ ∀ p, p ∈ ks ↔ p ∈ ls := by
  have nk' := nodup_of_map _ nk
  have nl' := nodup_of_map _ nl
  constructor
  · intro h
    unfold eqKv at h
    rw [Bool.and_eq_true] at h
    obtain ⟨h1, h2⟩ := h
    have hl : ks.length = ls.length := by simpa using h1
    have sub : ∀ p ∈ ks, p ∈ ls := fun p hp => by
      have h3 := of_decide_eq_true (List.all_eq_true.mp h2 p hp)
      obtain ⟨q, h4, h5⟩ := Option.map_eq_some_iff.mp h3
      have h6 := List.mem_of_find?_eq_some h4
      have h7 : q.1 = p.1 := by have := List.find?_some h4; simpa using this
      have : q = p := Prod.ext h7 h5
      rw [← this]; exact h6
    refine fun p => ⟨sub p, fun hp => Classical.byContradiction fun n => ?_⟩
    have := len_sub (l := p :: ks) (m := ls) (List.nodup_cons.mpr ⟨n, nk'⟩) fun a ha => by
      rcases List.mem_cons.mp ha with rfl | ha
      · exact hp
      · exact sub a ha
    rw [List.length_cons] at this
    omega
  · intro h
    unfold eqKv
    rw [Bool.and_eq_true]
    have h1 := len_sub (l := ks) (m := ls) nk' fun a ha => (h a).mp ha
    have h2 := len_sub (l := ls) (m := ks) nl' fun a ha => (h a).mpr ha
    exact ⟨by simp; omega, List.all_eq_true.mpr fun p hp => decide_eq_true (find_self nl ((h p).mp hp))⟩
theorem mem_kI {ys : List Str} {g : Str → Int} {p : Key × Int} : p ∈ kI ys g ↔ ∃ z ∈ ys, p = (.inr z, g z) := by
  unfold kI
  rw [List.mem_map]
  exact ⟨fun ⟨z, h, e⟩ => ⟨z, h, e.symm⟩, fun ⟨z, h, e⟩ => ⟨z, h, e.symm⟩⟩
/-- the same record -/
def SameRec (zs : List Str) (g o : Str → Int) (ps : List SP2) (zs' : List Str) (g' o' : Str → Int) (ps' : List SP2) : Prop := (∀ z, z ∈ zs ↔ z ∈ zs') ∧ (∀ z ∈ zs, g z = g' z) ∧ (∀ z ∈ zs, o z = o' z) ∧ ∀ e, e ∈ ps ↔ e ∈ ps'
theorem kI_iff {zs zs' : List Str} {g g' : Str → Int} : (∀ p, p ∈ kI zs g ↔ p ∈ kI zs' g') ↔ (∀ z, z ∈ zs ↔ z ∈ zs') ∧ ∀ z ∈ zs, g z = g' z := by
  constructor
  · intro h
    have h1 : ∀ z ∈ zs, z ∈ zs' ∧ g z = g' z := fun z hz => by
      obtain ⟨z', h2, e⟩ := mem_kI.mp ((h _).mp (mem_kI.mpr ⟨z, hz, rfl⟩))
      obtain ⟨e1, e2⟩ := Prod.mk.inj e
      cases Sum.inr.inj e1
      exact ⟨h2, e2⟩
    have h2 : ∀ z ∈ zs', z ∈ zs := fun z hz => by
      obtain ⟨z', h2, e⟩ := mem_kI.mp ((h _).mpr (mem_kI.mpr ⟨z, hz, rfl⟩))
      obtain ⟨e1, _⟩ := Prod.mk.inj e
      cases Sum.inr.inj e1
      exact h2
    exact ⟨fun z => ⟨fun q => (h1 z q).1, h2 z⟩, fun z hz => (h1 z hz).2⟩
  · rintro ⟨h1, h2⟩ p
    rw [mem_kI, mem_kI]
    exact ⟨fun ⟨z, hz, e⟩ => ⟨z, (h1 z).mp hz, by rw [e, h2 z hz]⟩, fun ⟨z, hz, e⟩ => ⟨z, (h1 z).mpr hz, by rw [e, h2 z ((h1 z).mpr hz)]⟩⟩
theorem kT_iff2 {ps ps' : List SP2} : (∀ p, p ∈ kT ps ↔ p ∈ kT ps') ↔ ∀ e, e ∈ ps ↔ e ∈ ps' := by
  have inj : ∀ {e e' : SP2}, (([Sum.inr e.1.1, Sum.inr e.1.2] : List Key), e.2) = ([Sum.inr e'.1.1, Sum.inr e'.1.2], e'.2) → e = e' := fun {e e'} h => by
    obtain ⟨h1, h2⟩ := Prod.mk.inj h
    injection h1 with a b
    injection b with b _
    exact Prod.ext (Prod.ext (Sum.inr.inj a) (Sum.inr.inj b)) h2
  have mem : ∀ {ps : List SP2} {e : SP2}, (([Sum.inr e.1.1, Sum.inr e.1.2] : List Key), e.2) ∈ kT ps ↔ e ∈ ps := fun {ps e} => by
    unfold kT
    rw [List.mem_map]
    exact ⟨fun ⟨e', h, q⟩ => by rw [← inj q]; exact h, fun h => ⟨e, h, rfl⟩⟩
  constructor
  · intro h e
    rw [← mem, ← mem]
    exact h _
  · intro h p
    unfold kT
    rw [List.mem_map, List.mem_map]
    exact ⟨fun ⟨e, q, r⟩ => ⟨e, (h e).mp q, r⟩, fun ⟨e, q, r⟩ => ⟨e, (h e).mpr q, r⟩⟩
theorem eqPr_iff {ys ys2 zs zs2 : List Str} {g o g' o' : Str → Int} {qs ps : List SP2} (N : PrN ys ys2 g o qs) (M : PrN zs zs2 g' o' ps) : eqPr ys ys2 g o qs zs zs2 g' o' ps = true ↔ SameRec ys g o qs zs g' o' ps := by
  unfold eqPr SameRec
  rw [Bool.and_eq_true, Bool.and_eq_true, eqKv_iff (kI_nd N.nd g) (kI_nd M.nd g'), eqKv_iff (kI_nd (N.pm.nodup_iff.mpr N.nd) o) (kI_nd (M.pm.nodup_iff.mpr M.nd) o'), eqKv_iff (kT_nd N.sn) (kT_nd M.sn), kI_iff, kI_iff, kT_iff2]
  constructor
  · rintro ⟨⟨a, b⟩, ⟨_, c⟩, d⟩
    exact ⟨a, b, fun z hz => c z (N.pm.mem_iff.mpr hz), d⟩
  · rintro ⟨a, b, c, d⟩
    refine ⟨⟨a, b⟩, ⟨fun z => ?_, fun z hz => c z (N.pm.mem_iff.mp hz)⟩, d⟩
    rw [N.pm.mem_iff, M.pm.mem_iff]
    exact a z
theorem SameRec.perm {ys zs ys' zs' : List Str} {g o g' o' : Str → Int} {qs ps qs' ps' : List SP2} (p1 : ys.Perm zs) (p2 : qs.Perm ps) (p3 : ys'.Perm zs') (p4 : qs'.Perm ps') : SameRec ys g o qs ys' g' o' qs' ↔ SameRec zs g o ps zs' g' o' ps' := by
  unfold SameRec
  refine and_congr (forall_congr' fun z => by rw [p1.mem_iff, p3.mem_iff]) (and_congr (forall_congr' fun z => by rw [p1.mem_iff]) (and_congr (forall_congr' fun z => by rw [p1.mem_iff]) (forall_congr' fun e => by rw [p2.mem_iff, p4.mem_iff])))
/-- closures of one record are one -/
theorem CloR.one {zs ys : List Str} {g o : Str → Int} {ps qs : List SP2} {c c' : Nd → Nd → Int} (sn : (ps.map Prod.fst).Nodup) (C : CloR zs g o ps c) (C' : CloR ys g o qs c') (pm : ys.Perm zs) (pq : qs.Perm ps) : ∀ x y, InL (codesOf zs) x → InL (codesOf zs) y → c x y = c' x y :=
  C.uniq (clo_conv sn pm pq C')
section
variable {zs : List Str} {c c' : Nd → Nd → Int} (sg : ∀ z ∈ zs, ∃ c ∈ ("abcde" : Str).cps.toList, z = ⟨#[c]⟩) (e : ∀ x y, InL (codesOf zs) x → InL (codesOf zs) y → c x y = c' x y)
include sg e
theorem gC_congr : ∀ z ∈ zs, gC c z = gC c' z := fun z hz => e _ _ InL.no (InL.of (code_mem sg hz))
theorem oC_congr : ∀ z ∈ zs, oC c z = oC c' z := fun z hz => e _ _ (InL.of (code_mem sg hz)) InL.no
theorem sC_congr : ∀ a ∈ zs, ∀ b ∈ zs, a ≠ b → sC c a b = sC c' a b := fun a ha b hb _ => e _ _ (InL.of (code_mem sg ha)) (InL.of (code_mem sg hb))
end
/-- closed prices, closed again -/
theorem CloR.again {zs zs' : List Str} {g o : Str → Int} {ps cps : List SP2} {c c' : Nd → Nd → Int} (sg : ∀ z ∈ zs, ∃ c ∈ ("abcde" : Str).cps.toList, z = ⟨#[c]⟩) (C : CloR zs g o ps c) (pm : zs'.Perm zs) (A : AllP zs (sC c) cps) (C' : CloR zs' (gC c) (oC c) cps c') : ∀ x y, InL (codesOf zs) x → InL (codesOf zs) y → c' x y = c x y :=
  C.same ((C'.perm fun a => ((pm.map _).mem_iff).symm).congr fun x y hx hy => (rOf_clo sg pm A x y hx hy).symm)
end MN
/-! the classes of k03; Prices.closed, is_closed -/
namespace MN
open PySem PySem.Spec PyProof.Rows L2
/-- the classes Prices and Closed of k03 -/
structure Pr3 (K : PySem.W.Frag) (mg : Str → Option Value) (Cp Cc : Addr) : Prop where
  pd : PrD K mg Cp
  sc : SlotC K Cc
  gc : mg "Closed" = some (.ref Cc)
  ic : ∃ f fd, Mk K Cc f ∧ FunAt K "__init__" "Closed.__init__" (inClass (top 23) 1) [] f fd
  clo : ∃ g fd, Meth K Cp "closed" g ∧ FunAt K "closed" "Prices.closed" (inClass (top 25) 8) [] g fd
  isc : ∃ g fd, Meth K Cp "is_closed" g ∧ FunAt K "is_closed" "Prices.is_closed" (inClass (top 25) 9) [] g fd
  iam : ∃ g fd, Meth K Cp "is_at_most" g ∧ FunAt K "is_at_most" "Prices.is_at_most" (inClass (top 25) 10) [] g fd
theorem Pr3.pc {K : PySem.W.Frag} {mg : Str → Option Value} {Cp Cc : Addr} (P : Pr3 K mg Cp Cc) : PrC K mg Cp Cc := ⟨P.pd.sp, P.sc, P.pd.gp, P.gc, P.pd.ip, P.ic, P.pd.si, P.pd.isP, P.pd.con, P.clo, P.pd.pput, P.pd.pout, P.pd.pswap⟩
section
variable {P : Program} {w : World} {K : PySem.W.Frag} {mg : Str → Option Value} {base : Heap} {Cp Cc : Addr}
def spClo3 (Cp : Addr) : Sp := fun vs H Q _ => ∃ x zs zs2 g o ps, vs = [.ref x] ∧ PrS Cp H x zs g o ps ∧ PrN zs zs2 g o ps ∧
  ∀ y c cps H', Same H H' → CloR zs g o ps c → AllP zs (sC c) cps → PrN zs zs (gC c) (oC c) cps → PrS Cp H' y zs (gC c) (oC c) cps → Q (.ref y) H'
theorem f_pclosed3 {f : Addr} {fd : FuncData} (PC : Pr3 K mg Cp Cc) (F : FunAt K "closed" "Prices.closed" (inClass (top 25) 8) [] f fd) (B : Blt mg) (c_are_prices2 : Cal P w K mg base 3 "are_prices" spAreP2) (c_closed_of : Cal P w K mg base 3 "closed_of" (spClosedOf Cp Cc)) : FnOk P w K mg base CX0 6 f fd ["self"] (spClo3 Cp) := by
  obtain ⟨fi, fdi, M, Fi⟩ := PC.pd.ip
  refine fnok_of F sc_pclosed (fun vs H Q E h => ?_) (fun cdv A outer s H vs Q E hr h => ?_)
  · obtain ⟨_, _, _, _, _, _, rfl, _⟩ := h; rfl
  · obtain ⟨x, zs, zs2, g, o, ps, rfl, ⟨dx, ys, qs, hP, NY, pm, asc, pq, srt⟩, N, hQ⟩ := h
    obtain ⟨p0, s0⟩ := PC.sc.s0
    obtain ⟨p1, s1⟩ := PC.sc.s1
    obtain ⟨p2, s2⟩ := PC.sc.s2
    refine ⟨_, pss_cons (ps_set (i := 1) sc_pclosed.nd rfl (Or.inl rfl) (pe_c c_closed_of hr (by decide) (by rfl) (pa_cons (pv 0) pa_nil)))
      (pss_one (ps_ret (pe_makeKG M (f_pinit3 (P := P) (w := w) (mg := mg) (base := base) PC.pd.sp Fi B c_are_prices2) (hr.mono (by decide)) (by rfl) PC.pd.gp (kb_pinit Fi) pass0 (pk_cons (SlX.pe_sl (pv 1)) (pk_cons (SlX.pe_sl (pv 1)) (pk_cons (SlX.pe_sl (pv 1)) pk_nil)))))), ?_⟩
    refine ⟨_, rfl, x, dx, ys, ys, g, o, qs, rfl, hP, NY, fun q dq c H1 e1 _ _ CL hC => ?_⟩
    obtain ⟨qs1, AP, PA, PB, PS, ws, hs, w1, w0, w2, nAB, hA, hB, hS⟩ := hC
    refine ⟨_, rfl, q, Cc, dq, p1, ws, 1, _, rfl, .inr hs, PC.sc.sc, s1, w1, _, rfl, q, Cc, dq, p0, ws, 0, _, rfl, .inr hs, PC.sc.sc, s0, w0, _, rfl, q, Cc, dq, p2, ws, 2, _, rfl, .inr hs, PC.sc.sc, s2, w2, rfl, rfl, fun y dy hy hdy n => ?_⟩
    have nx : ∀ b u, H1 b = some u → b ≠ y ∧ b ≠ dy := fun b u e => ⟨ne_of_none e hy, ne_of_none e hdy⟩
    have up : ∀ b u, H1 b = some u → upd (upd H1 dy (.own y)) y (.ins Cp dy []) b = some u := fun b u e => by
      rw [upd_ne (nx b u e).1, upd_ne (nx b u e).2]; exact e
    have CZ : CloR zs g o ps c := clo_conv N.sn pm pq CL
    have AZ : AllP zs (sC c) qs1 := AP.permY pm.symm
    refine ⟨y, dy, PA, PB, PS, ys, ys, gC c, oC c, qs1, rfl, upd_same, by rw [upd_ne n, upd_same], n, up _ _ hA, up _ _ hB, up _ _ hS, clo_good NY CL AP, fun H2 ys' qs' k2 hP2 N2 pm2 asc2 pq2 srt2 => ⟨rfl, hQ y c qs1 H2 (fun b u z => ?_) CZ AZ (clo_good N CZ AZ) ⟨dy, ys', qs', hP2, N2, pm2.trans pm, asc2, pq2, srt2⟩⟩⟩
    have z1 := e1 _ _ z
    exact k2 b u (nx _ _ z1).1 (nx _ _ z1).2 (up _ _ z1)
theorem r_pclosed3 (PC : Pr3 K mg Cp Cc) (B : Blt mg) (c_are_prices2 : Cal P w K mg base 3 "are_prices" spAreP2) (c_closed_of : Cal P w K mg base 3 "closed_of" (spClosedOf Cp Cc)) : ∃ g, Meth K Cp "closed" g ∧ FnR P w K mg base CX0 6 g (fun vs H Q E => spClo3 Cp (vs ++ []) H Q E) := by
  obtain ⟨g, fd, h1, F⟩ := PC.clo
  have b := FunD.bindsN (ps := ["self"]) F fun _ _ _ _ _ _ us hl => match us, hl with | [_], _ => rfl
  exact ⟨g, h1, (f_pclosed3 PC F B c_are_prices2 c_closed_of).raw b .nil⟩
/-- == of two prices that stand as records say -/
theorem eq_rec {H : Hp} {x y : Addr} {zs zs' : List Str} {g o g' o' : Str → Int} {ps ps' : List SP2} (h : PrS Cp H x zs g o ps) (h' : PrS Cp H y zs' g' o' ps') {Q : Bool → Hp → Prop} (q : ∀ b, (b = true ↔ SameRec zs g o ps zs' g' o' ps') → Q b H) :
    ∃ dx ys qs dy ys' qs', PrAt Cp H x dx ys ys g o qs ∧ PrAt Cp H y dy ys' ys' g' o' qs' ∧ Q (eqPr ys ys g o qs ys' ys' g' o' qs') H := by
  obtain ⟨dx, ys, qs, hP, N, pm, _, pq, _⟩ := h
  obtain ⟨dy, ys', qs', hP', N', pm', _, pq', _⟩ := h'
  exact ⟨dx, ys, qs, dy, ys', qs', hP, hP', q _ ((eqPr_iff N N').trans (SameRec.perm pm pq pm' pq'))⟩
def spIsc3 (Cp : Addr) : Sp := fun vs H Q _ => ∃ x zs zs2 g o ps, vs = [.ref x] ∧ PrS Cp H x zs g o ps ∧ PrN zs zs2 g o ps ∧
  ∀ b c cps H', Same H H' → CloR zs g o ps c → AllP zs (sC c) cps → (b = true ↔ SameRec zs g o ps zs (gC c) (oC c) cps) → Q (.bl b) H'
abbrev N_pisc : List Str := ["self"]
theorem sc_pisc : FnScope N_pisc ["self"] (defScope (inClass (top 25) 9)) := ⟨rfl, rfl, rfl, by decide +kernel, rfl, by decide +kernel, by decide +kernel⟩
theorem f_pisc {f : Addr} {fd : FuncData} (PC : Pr3 K mg Cp Cc) (F : FunAt K "is_closed" "Prices.is_closed" (inClass (top 25) 9) [] f fd) (B : Blt mg) (c_are_prices2 : Cal P w K mg base 3 "are_prices" spAreP2) (c_closed_of : Cal P w K mg base 3 "closed_of" (spClosedOf Cp Cc)) : FnOk P w K mg base CX0 7 f fd ["self"] (spIsc3 Cp) := by
  obtain ⟨gm, hM, hFM⟩ := r_pclosed3 (P := P) (w := w) (base := base) PC B c_are_prices2 c_closed_of
  obtain ⟨ge, fde, hE, fE, Ge⟩ := PC.pd.eq
  have bE := FunD.bindsN (ps := ["self", "other"]) Ge fun _ _ _ _ _ _ us hl => match us, hl with | [_, _], _ => rfl
  have Fq := f_peqA (P := P) (w := w) (base := base) PC.pd Ge B
  refine fnok_of F sc_pisc (fun vs H Q E h => ?_) (fun cdv A outer s H vs Q E hr h => ?_)
  · obtain ⟨_, _, _, _, _, _, rfl, _⟩ := h; rfl
  · obtain ⟨x, zs, zs2, g, o, ps, rfl, PS, N, hQ⟩ := h
    refine ⟨_, pss_one (ps_ret (pe_cmpR (op_eqOwn Fq (hr.mono (by decide)) hE fE bE pass0) (pv 0) (SlX.pe_methSl0 (E := E0) (pv 0) PC.pd.sp.sc hM hFM (hr.mono (by decide)) pass0) (nomark _))), ?_⟩
    obtain ⟨dx0, ws0, sl0⟩ := PS.slt
    refine ⟨_, rfl, _, rfl, x, dx0, ws0, rfl, sl0, x, zs, zs2, g, o, ps, rfl, PS, N, fun y c cps H1 e1 CZ AZ _ PY => ?_⟩
    obtain ⟨dx, ys, qs, dy, ys', qs', hP, hP', q⟩ := eq_rec (PS.same e1) PY (Q := fun b H => Q (.bl b) H) fun b hb => hQ b c cps H1 e1 CZ AZ hb
    obtain ⟨ws, sl⟩ := hP.inst
    obtain ⟨ws', sl'⟩ := hP'.inst
    exact ⟨x, dx, ws, .ref Cp, rfl, sl, .inr (.inr ⟨y, Cp, dy, ws', rfl, sl', rfl⟩), PC.pd.nfp, x, dx, ys, ys, g, o, qs, .ref y, rfl, hP, .inl ⟨y, dy, _, _, _, _, _, rfl, hP', _, rfl, q⟩⟩
theorem r_pisc (PC : Pr3 K mg Cp Cc) (B : Blt mg) (c_are_prices2 : Cal P w K mg base 3 "are_prices" spAreP2) (c_closed_of : Cal P w K mg base 3 "closed_of" (spClosedOf Cp Cc)) : ∃ g, Meth K Cp "is_closed" g ∧ FnR P w K mg base CX0 7 g (fun vs H Q E => spIsc3 Cp (vs ++ []) H Q E) := by
  obtain ⟨g, fd, h1, F⟩ := PC.isc
  have b := FunD.bindsN (ps := ["self"]) F fun _ _ _ _ _ _ us hl => match us, hl with | [_], _ => rfl
  exact ⟨g, h1, (f_pisc PC F B c_are_prices2 c_closed_of).raw b .nil⟩
end
end MN
/-! Prices.is_at_most -/
namespace MN
open PySem PySem.Spec PyProof.Rows L2
/-- closed prices that are no greater -/
def Below (zs : List Str) (c : Nd → Nd → Int) (zs' : List Str) (c' : Nd → Nd → Int) : Prop := (∀ z, z ∈ zs ↔ z ∈ zs') ∧ (∀ z ∈ zs, gC c z ≤ gC c' z ∧ oC c z ≤ oC c' z) ∧ ∀ a ∈ zs, ∀ b ∈ zs, a ≠ b → sC c a b ≤ sC c' a b
theorem eqv_strs : ∀ ys zs : List Str, PyData.eqvAll (ys.map PyData.str) (zs.map PyData.str) = decide (ys = zs)
  | [], [] => by simp [PyData.eqvAll]
  | [], z :: zs => by simp [PyData.eqvAll]
  | y :: ys, [] => by simp [PyData.eqvAll]
  | y :: ys, z :: zs => by
    rw [List.map_cons, List.map_cons, PyData.eqvAll, eqv_strs ys zs]
    by_cases h : y = z <;> simp [PyData.eqv, h]
theorem shStrs {ys : List Str} (sg : ∀ z ∈ ys, ∃ c ∈ ("abcde" : Str).cps.toList, z = ⟨#[c]⟩) : SeqAt.shaped (.tuple (ys.map PyData.str)) = true := shapedT fun d hd => by
  obtain ⟨z, hz, rfl⟩ := List.mem_map.mp hd
  have h := Sm.sign (sg z hz)
  exact ⟨h.cl, by have := h.dp; omega⟩
theorem sl2_upd {H : Hp} {x C dx A : Addr} {ws : List (Option V)} {u v : HO} (h : Sl2 H x C dx ws) (hA : H A = some u) (hu : (∃ k, u = .dK k) ∨ ∃ k, u = .dT k) : Sl2 (upd H A v) x C dx ws := by
  have n1 : x ≠ A := fun z => by
    have q := h.1
    rw [z, hA] at q
    injection q with q
    rcases hu with ⟨k, rfl⟩ | ⟨k, rfl⟩ <;> (unfold SlX.SlO at q; cases q)
  have n2 : dx ≠ A := fun z => by
    have q := h.2
    rw [z, hA] at q
    injection q with q
    rcases hu with ⟨k, rfl⟩ | ⟨k, rfl⟩ <;> cases q
  exact ⟨by rw [upd_ne n1]; exact h.1, by rw [upd_ne n2]; exact h.2⟩
theorem Sl2.same' {H H' : Hp} {x C dx : Addr} {ws : List (Option V)} (h : Sl2 H x C dx ws) (e : Same H H') : Sl2 H' x C dx ws := ⟨e _ _ h.1, e _ _ h.2⟩
theorem rd_lock {H : Hp} {A B : Addr} {od : Obj} {k k' : List (Key × V)} (h : H A = some (.dK k)) (h' : H B = some (.dK k')) : Rd (upd H B (.frz od (.dK k'))) A (.dK k) := by
  by_cases z : A = B
  · rw [z, h'] at h
    cases Option.some.inj h
    exact .inr ⟨od, by rw [z]; exact upd_same⟩
  · exact .inl (by rw [upd_ne z]; exact h)
theorem rd_lockT {H : Hp} {A B : Addr} {od : Obj} {k k' : List (List Key × V)} (h : H A = some (.dT k)) (h' : H B = some (.dT k')) : Rd (upd H B (.frz od (.dT k'))) A (.dT k) := by
  by_cases z : A = B
  · rw [z, h'] at h
    cases Option.some.inj h
    exact .inr ⟨od, by rw [z]; exact upd_same⟩
  · exact .inl (by rw [upd_ne z]; exact h)
theorem rdSame {H H' : Hp} {A : Addr} {u : HO} (h : Rd H A u) (e : Same H H') : Rd H' A u := by
  rcases h with h | ⟨od, h⟩
  · exact .inl (e _ _ h)
  · exact .inr ⟨od, e _ _ h⟩
def blV (f : Str → Bool) : V → V
  | .str z => .bl (f z)
  | x => x
section
variable {P : Program} {w : World} {K : PySem.W.Frag} {mg : Str → Option Value} {base : Heap} {Cp Cc : Addr}
def spIam3 (Cp : Addr) : Sp := fun vs H Q _ => ∃ x y zs zs2 g o ps zs' zs2' g' o' ps', vs = [.ref x, .ref y] ∧ PrS Cp H x zs g o ps ∧ PrN zs zs2 g o ps ∧ PrS Cp H y zs' g' o' ps' ∧ PrN zs' zs2' g' o' ps' ∧
  ∀ b c c' H', Same H H' → CloR zs g o ps c → CloR zs' g' o' ps' c' → (b = true ↔ Below zs c zs' c') → Q (.bl b) H'
abbrev N_piam : List Str := ["self", "other", "mine", "others", "singles", "one", "pair"]
theorem sc_piam : FnScope N_piam ["self", "other"] (defScope (inClass (top 25) 10)) := ⟨rfl, rfl, rfl, by decide +kernel, rfl, by decide +kernel, by decide +kernel⟩
theorem f_piam {f : Addr} {fd : FuncData} (PC : Pr3 K mg Cp Cc) (F : FunAt K "is_at_most" "Prices.is_at_most" (inClass (top 25) 10) [] f fd) (B : Blt mg) (c_require_prices : Cal P w K mg base 1 "require_prices" (spReqPrices Cp)) (c_closed_of : Cal P w K mg base 3 "closed_of" (spClosedOf Cp Cc)) : FnOk P w K mg base CX0 4 f fd ["self", "other"] (spIam3 Cp) := by
  obtain ⟨pp4, pg4, fd4, hps, Gs⟩ := PC.pd.psig
  have Fs := (f_psigns (P := P) (w := w) (mg := mg) (base := base) PC.pd.sp Gs B).raw (FunD.bindsN (ps := ["self"]) Gs fun _ _ _ _ _ _ us hl => match us, hl with | [_], _ => rfl) .nil
  refine fnok_of F sc_piam (fun vs H Q E h => ?_) (fun cdv A outer s H vs Q E hr h => ?_)
  · obtain ⟨_, _, _, _, _, _, _, _, _, _, _, _, rfl, _⟩ := h; rfl
  · obtain ⟨x, y, zs, zs2, g, o, ps, zs', zs2', g', o', ps', rfl, PS, N, PS', N', hQ⟩ := h
    obtain ⟨p0, s0⟩ := PC.pd.sp.s0
    obtain ⟨p1, s1⟩ := PC.pd.sp.s1
    obtain ⟨p2, s2⟩ := PC.pd.sp.s2
    obtain ⟨r0, t0⟩ := PC.sc.s0
    obtain ⟨r1, t1⟩ := PC.sc.s1
    obtain ⟨r2, t2⟩ := PC.sc.s2
    refine ⟨_, pss_cons (ps_expr (pe_c c_require_prices hr (by decide) (by rfl) (pa_cons (pv 1) pa_nil)))
      (pss_cons (ps_if (pt_cmpR (op_neD hr.units) (SlX.pe_propSl (E := E0) (pv 0) PC.pd.sp.sc hps.at_ hps.get hps.tak hps.rec_ Fs (hr.mono (by decide)) (fun _ _ _ _ h => h)) (SlX.pe_propSl (E := E0) (pv 1) PC.pd.sp.sc hps.at_ hps.get hps.tak hps.rec_ Fs (hr.mono (by decide)) (fun _ _ _ _ h => h)) (nomark _)) (pss_one (ps_ret pe_bl)) pss_nil)
      (pss_cons (ps_asg (pe_tup (pa_cons (pe_c c_closed_of hr (by decide) (by rfl) (pa_cons (pv 0) pa_nil)) (pa_cons (pe_c c_closed_of hr (by decide) (by rfl) (pa_cons (pv 1) pa_nil)) pa_nil))) (pg_tup rfl (pgs_cons (pg_name (i := 2) sc_piam.nd rfl (Or.inr rfl)) (pgs_cons (pg_name (i := 3) sc_piam.nd rfl (Or.inr rfl)) pgs_nil))))
      (pss_cons (ps_lock (ps_setLc (i := 4) (own := [("one", 5)]) (g := gName 5) (tt := tYes) (by rfl) sc_piam.nd rfl rfl (sw_true rfl rfl rfl (by decide +kernel)) (pi_keys (SlX.pe_sl (pv 0))) (blkOk_by (own := [("one", 5)]) (N := N_piam) (sc := defScope (inClass (top 25) 10)) (by decide +kernel)) (fun _ _ _ _ _ => (pg_name (i := 5) sc_piam.nd rfl (Or.inl rfl))) (fun _ _ _ _ _ => pts_nil)
        (fun _ _ _ _ _ => pe_and (pe_cmpR op_le (pe_dget (hu_of hr) (peSlK (K := K) rfl (pv 2)) (pv 5) (fun _ _ => rfl)) (pe_dget (hu_of hr) (peSlK (K := K) rfl (pv 3)) (pv 5) (fun _ _ => rfl)) (nomark _)) (pe_one (pe_cmpR op_le (pe_dget (hu_of hr) (peSlK (K := K) rfl (pv 2)) (pv 5) (fun _ _ => rfl)) (pe_dget (hu_of hr) (peSlK (K := K) rfl (pv 3)) (pv 5) (fun _ _ => rfl)) (nomark _))))))
      (pss_one (ps_ret (pe_and (pe_callB (cr_all rfl) (by rfl) B.all (by decide +kernel) (pa_cons (pv 4) pa_nil)) (pe_one (pe_callB (cr_all rfl) (by rfl) B.all (by decide +kernel) (pa_cons (pe_lock (pe_lc (own := [("pair", 6)]) (g := gName 6) (tt := tYes) (by rfl) sc_piam.nd (pi_keys (SlX.pe_sl (pv 2))) (blkOk_by (own := [("pair", 6)]) (N := N_piam) (sc := defScope (inClass (top 25) 10)) (by decide +kernel)) (fun _ _ _ _ _ => (pg_name (i := 6) sc_piam.nd rfl (Or.inl rfl))) (fun _ _ _ _ _ => pts_nil)
        (fun _ _ _ _ _ => pe_cmpR op_le (pe_dget (hu_of hr) (peSlK (K := K) rfl (pv 2)) (pv 6) (fun _ _ => rfl)) (pe_dget (hu_of hr) (peSlK (K := K) rfl (pv 3)) (pv 6) (fun _ _ => rfl)) (nomark _)))) pa_nil))))))))), ?_⟩
    have two : 2 ≤ sizeLine := by decide
    obtain ⟨dx, ys, qs, hP, NY, pm, asc, pq, srt⟩ := id PS
    obtain ⟨dy, ys', qs', hP', NY', pm', asc', pq', srt'⟩ := id PS'
    obtain ⟨ws, sl⟩ := hP.inst
    refine ⟨_, rfl, y, dy, ys', ys', g', o', qs', rfl, hP', ?_⟩
    refine ⟨_, rfl, x, dx, ws, rfl, sl, x, dx, ys, ys, g, o, qs, rfl, hP, fun d1 H1 e1 u1 => ?_⟩
    obtain ⟨ws', sl'⟩ := (hP'.same e1).inst
    refine ⟨_, rfl, y, dy, ws', rfl, sl', y, dy, ys', ys', g', o', qs', rfl, hP'.same e1, fun d2 H2 e2 u2 => ⟨.tuple (ys.map .str), .tuple (ys'.map .str), .tup (Same.seqT e2 u1) (dp_strs ys), .tup u2 (dp_strs ys'), shStrs NY.sg, shStrs NY'.sg, ?_⟩⟩
    have e12 := e1.trans e2
    rw [show PyData.eqv (.tuple (ys.map .str)) (.tuple (ys'.map .str)) = decide (ys = ys') from by rw [PyData.eqv]; exact eqv_strs ys ys']
    have big : 1000 < sizeLine := by decide
    obtain ⟨c0, C0⟩ := clo_exists N
    obtain ⟨c0', C0'⟩ := clo_exists N'
    by_cases yy : ys = ys'
    · subst yy
      have l5 := NY.le
      have l100 := NY.sl
      rw [show decide (ys = ys) = true from decide_eq_true rfl]
      refine ⟨_, rfl, iteF ?_⟩
      refine ⟨_, rfl, x, dx, ys, ys, g, o, qs, rfl, hP.same e12, NY, fun q1 dq1 c1 H3 e3 _ _ C1 K1 => ⟨_, rfl, y, dy, ys, ys, g', o', qs', rfl, (hP'.same e12).same e3, NY', fun q2 dq2 c2 H4 e4 _ _ C2 K2 => ⟨two, fun T hT => ⟨T, _, rfl, .inl (.inl upd_same), rfl, _, _, rfl, _, _, rfl, rfl, ?_⟩⟩⟩⟩
      have e5 := (e3.trans e4).trans (same_new (o := .tup [.ref q1, .ref q2]) hT)
      have K1' := (K1.same e4).same (same_new (o := .tup [.ref q1, .ref q2]) hT)
      have K2' := K2.same (same_new (o := .tup [.ref q1, .ref q2]) hT)
      generalize upd H4 T (.tup [.ref q1, .ref q2]) = H5 at e5 K1' K2' ⊢
      obtain ⟨cp1, A1, PA1, PB1, PS1, v1, hv1, a1, a0, a2, nAB1, hA1, hB1, hS1⟩ := K1'
      obtain ⟨cp2, A2, PA2, PB2, PS2, v2, hv2, b1, b0, b2, nAB2, hA2, hB2, hS2⟩ := K2'
      have E5 := e12.trans e5
      obtain ⟨PA, PB, PSx, wx, hs, w1, w0, w2, nAB, hA, hB, hS⟩ := hP.same E5
      clear e1 e2 e3 e4 e5 u1 u2 hT K1 K2 sl sl'
      have CZ1 : CloR zs g o ps c1 := clo_conv N.sn pm pq C1
      have CZ2 : CloR zs' g' o' ps' c2 := clo_conv N'.sn pm' pq' C2
      -- signs
      refine ⟨PA, _, hA, trivial, fun od => ?_⟩
      have kA : ∀ {A : Addr} {k : List (Key × V)}, H5 A = some (.dK k) → Rd (upd H5 PA (.frz od (.dK (dkF ys g)))) A (.dK k) := fun h => rd_lock h hA
      have kS1 := sl2_upd (v := .frz od (.dK (dkF ys g))) hv1 hA (.inl ⟨_, rfl⟩)
      have kS2 := sl2_upd (v := .frz od (.dK (dkF ys g))) hv2 hA (.inl ⟨_, rfl⟩)
      refine ⟨_, rfl, x, Cp, dx, p1, wx, 1, _, rfl, .inr (sl2_upd hs hA (.inl ⟨_, rfl⟩)), PC.pd.sp.sc, s1, w1, PA, od, rfl, .inl ⟨_, upd_same, fun D hD => ?_⟩⟩
      have nD : D ≠ PA := fun z => by rw [z, upd_same] at hD; cases hD
      refine lc_ext walk_keys (strsV ys) (by simp [strsV, dkF]) (by simp only [dkF, List.length_map]; omega) (fun i H x H' hi y => ?_) hD (fun _ => true) (blV fun z => decide (gC c1 z ≤ gC c2 z) && decide (oC c1 z ≤ oC c2 z)) (fun H' e => e _ _ upd_same) (fun _ _ => by kernel_rfl) (fun x _ H2 e2 Q q => q _ (Same.refl _)) (fun v hv _ H6 e6 Q q => ?_) (fun H6 e6 h6 => ⟨e6 _ _ upd_same, ?_⟩)
      · obtain ⟨rfl, k, v, hk, rfl⟩ := y
        unfold dkF at hk
        rw [List.getElem?_map] at hk
        obtain ⟨z, hz, ek⟩ := Option.map_eq_some_iff.mp hk
        cases ek
        exact ⟨rfl, by show (ys.map V.str)[i]? = _; rw [List.getElem?_map, hz]; rfl⟩
      · obtain ⟨z, hz, rfl⟩ := List.mem_map.mp hv
        have q' := q _ (Same.refl _)
        have j1 := Sl2.same' kS1 e6
        have j2 := Sl2.same' kS2 e6
        refine ⟨_, rfl, q1, Cc, dq1, r1, v1, 1, _, rfl, .inr j1, PC.sc.sc, t1, a1, _, rfl, PA1, .int (gC c1 z), rfl, .inl ⟨_, .inr z, rdSame (kA hA1) e6, rfl, (dkF_val NY.nd (gC c1) hz).symm⟩, _, rfl, q2, Cc, dq2, r1, v2, 1, _, rfl, .inr j2, PC.sc.sc, t1, b1, _, rfl, PA2, .int (gC c2 z), rfl, .inl ⟨_, .inr z, rdSame (kA hA2) e6, rfl, (dkF_val NY.nd (gC c2) hz).symm⟩, _, _, rfl, rfl, _, rfl, ?_⟩
        by_cases h1 : gC c1 z ≤ gC c2 z
        · refine iteDT h1 ?_
          have q2' : Q (.bl (decide (oC c1 z ≤ oC c2 z))) H6 := by
            have : blV (fun z => decide (gC c1 z ≤ gC c2 z) && decide (oC c1 z ≤ oC c2 z)) (.str z) = .bl (decide (oC c1 z ≤ oC c2 z)) := by show V.bl (decide (gC c1 z ≤ gC c2 z) && decide (oC c1 z ≤ oC c2 z)) = _; rw [decide_eq_true h1, Bool.true_and]
            rw [this] at q'
            exact q'
          exact ⟨_, rfl, q1, Cc, dq1, r0, v1, 0, _, rfl, .inr j1, PC.sc.sc, t0, a0, _, rfl, PB1, .int (oC c1 z), rfl, .inl ⟨_, .inr z, rdSame (kA hB1) e6, rfl, (dkF_val NY.nd (oC c1) hz).symm⟩, _, rfl, q2, Cc, dq2, r0, v2, 0, _, rfl, .inr j2, PC.sc.sc, t0, b0, _, rfl, PB2, .int (oC c2 z), rfl, .inl ⟨_, .inr z, rdSame (kA hB2) e6, rfl, (dkF_val NY.nd (oC c2) hz).symm⟩, _, _, rfl, rfl, q2'⟩
        · refine iteDF h1 ?_
          have : blV (fun z => decide (gC c1 z ≤ gC c2 z) && decide (oC c1 z ≤ oC c2 z)) (.str z) = .bl false := by show V.bl (decide (gC c1 z ≤ gC c2 z) && decide (oC c1 z ≤ oC c2 z)) = _; rw [decide_eq_false h1, Bool.false_and]
          rw [this] at q'
          exact q'
      have sU := sameUn e6 hA
      have h7 : upd H6 PA (.dK (dkF ys g)) D = some (.lst ((ys.map fun z => decide (gC c1 z ≤ gC c2 z) && decide (oC c1 z ≤ oC c2 z)).map V.bl)) := by
        rw [upd_ne nD, h6, filter_all]
        unfold strsV
        rw [List.map_map, List.map_map]
        rfl
      generalize upd H6 PA (.dK (dkF ys g)) = H7 at sU h7 ⊢
      clear e6 h6 hD kA kS1 kS2
      have E7 := E5.trans sU
      refine ⟨_, rfl, D, _, rfl, SqL.of h7, _, rfl, ?_⟩
      have all1 : (ys.map fun z => decide (gC c1 z ≤ gC c2 z) && decide (oC c1 z ≤ oC c2 z)).all id = true ↔ ∀ z ∈ ys, gC c1 z ≤ gC c2 z ∧ oC c1 z ≤ oC c2 z := by
        rw [List.all_eq_true]
        constructor
        · intro h z hz
          have := h _ (List.mem_map.mpr ⟨z, hz, rfl⟩)
          rw [id, Bool.and_eq_true] at this
          exact ⟨of_decide_eq_true this.1, of_decide_eq_true this.2⟩
        · intro h v hv
          obtain ⟨z, hz, rfl⟩ := List.mem_map.mp hv
          rw [id, Bool.and_eq_true]
          exact ⟨decide_eq_true (h z hz).1, decide_eq_true (h z hz).2⟩
      have memE : ∀ z, z ∈ zs ↔ z ∈ zs' := fun z => by rw [← pm.mem_iff, ← pm'.mem_iff]
      cases ab : (ys.map fun z => decide (gC c1 z ≤ gC c2 z) && decide (oC c1 z ≤ oC c2 z)).all id with
      | false =>
        refine iteF (hQ false c1 c2 _ E7 CZ1 CZ2 ⟨(fun q => nomatch q), fun q => ?_⟩)
        rw [all1.mpr fun z hz => q.2.1 z (pm.mem_iff.mp hz)] at ab
        cases ab
      | true =>
        have al := all1.mp ab
        refine iteT ?_
        have hS1' := sU _ _ hS1
        have hS2' := sU _ _ hS2
        have hv1' := Sl2.same' hv1 sU
        have hv2' := Sl2.same' hv2 sU
        refine ⟨PS1, _, hS1', trivial, fun od2 => ?_⟩
        have k1 := sl2_upd (v := .frz od2 (.dT (dtF cp1))) hv1' hS1' (.inr ⟨_, rfl⟩)
        have k2 := sl2_upd (v := .frz od2 (.dT (dtF cp1))) hv2' hS1' (.inr ⟨_, rfl⟩)
        have kT2 : Rd (upd H7 PS1 (.frz od2 (.dT (dtF cp1)))) PS2 (.dT (dtF cp2)) := rd_lockT hS2' hS1'
        refine ⟨_, rfl, q1, Cc, dq1, r2, v1, 2, _, rfl, .inr k1, PC.sc.sc, t2, a2, PS1, od2, rfl, .inr ⟨_, upd_same, fun D2 hD2 => ?_⟩⟩
        have nD2 : D2 ≠ PS1 := fun z => by rw [z, upd_same] at hD2; cases hD2
        have l25 : cp1.length ≤ 25 := by
          have h1 := A1.len
          have h2 : ys.length * ys.length ≤ 5 * 5 := Nat.mul_le_mul l5 l5
          omega
        refine lc_it walk_keysT (fun i H' => Same (upd H7 PS1 (.frz od2 (.dT (dtF cp1)))) H' ∧ H' D2 = some (.lst (((cp1.take i).map fun e => decide (e.2 ≤ sC c2 e.1.1 e.1.2)).map V.bl))) ⟨same_new hD2, by rw [List.take_zero]; exact upd_same⟩ (fun i H' _ e => e.1 _ _ upd_same) (fun i y Ha Hc hi e hy => ?_) (fun H8 e => ⟨e.1 _ _ upd_same, ?_⟩)
        · obtain ⟨rfl, k, v, b, hk, rfl, hb⟩ := hy
          obtain ⟨ea, hDa⟩ := e
          unfold dtF at hk
          rw [List.getElem?_map] at hk
          obtain ⟨⟨⟨a, b'⟩, n⟩, hpi, ek⟩ := Option.map_eq_some_iff.mp hk
          cases ek
          have hpm := List.mem_of_getElem? hpi
          obtain ⟨ma, mb, nab, hn⟩ := (A1.iff _).mp hpm
          have mem2 : ((a, b'), sC c2 a b') ∈ cp2 := (A2.iff _).mpr ⟨ma, mb, nab, rfl⟩
          have hb' : Hc b = some (.tup [.str a, .str b']) := hb
          refine ⟨rfl, yes_q (iteT ⟨_, rfl, q1, Cc, dq1, r2, v1, 2, _, rfl, .inr (Sl2.same' k1 ea), PC.sc.sc, t2, a2, _, rfl, PS1, .int n, rfl, .inr ⟨_, [.inr a, .inr b'], b, .inr ⟨od2, ea _ _ upd_same⟩, rfl, hb', (dtF_val A1.nd hpm).symm⟩, _, rfl, q2, Cc, dq2, r2, v2, 2, _, rfl, .inr (Sl2.same' k2 ea), PC.sc.sc, t2, b2, _, rfl, PS2, .int (sC c2 a b'), rfl, .inr ⟨_, [.inr a, .inr b'], b, rdSame kT2 ea, rfl, hb', (dtF_val A2.nd mem2).symm⟩, _, _, rfl, rfl, _, hDa, ?_, fun c u z => ?_, ?_⟩)⟩
          · rw [List.length_map, List.length_map, List.length_take]; omega
          · rw [upd_ne (ne_of_none z hD2)]; exact ea _ _ z
          · rw [upd_same, List.take_add_one, hpi, Option.toList_some, List.map_append, List.map_append]; rfl
        obtain ⟨e8, hD8⟩ := e
        have lcp : (dtF cp1).length = cp1.length := by simp [dtF]
        rw [lcp, List.take_length] at hD8
        have sV := sameUn e8 hS1'
        have hD9 : upd H8 PS1 (.dT (dtF cp1)) D2 = some (.lst ((cp1.map fun e => decide (e.2 ≤ sC c2 e.1.1 e.1.2)).map V.bl)) := by rw [upd_ne nD2]; exact hD8
        refine ⟨D2, _, rfl, SqL.of hD9, hQ _ c1 c2 _ (E7.trans sV) CZ1 CZ2 ?_⟩
        rw [List.all_eq_true]
        constructor
        · intro h
          refine ⟨memE, fun z hz => al z (pm.mem_iff.mpr hz), fun a ha b' hb nab => ?_⟩
          have := h _ (List.mem_map.mpr ⟨((a, b'), sC c1 a b'), (A1.iff _).mpr ⟨pm.mem_iff.mpr ha, pm.mem_iff.mpr hb, nab, rfl⟩, rfl⟩)
          exact of_decide_eq_true this
        · intro h v hv
          obtain ⟨e, he, rfl⟩ := List.mem_map.mp hv
          obtain ⟨ma, mb, nab, hn⟩ := (A1.iff _).mp he
          refine decide_eq_true ?_
          rw [hn]
          exact h.2.2 _ (pm.mem_iff.mp ma) _ (pm.mem_iff.mp mb) nab
    · rw [decide_eq_false yy]
      refine ⟨_, rfl, iteT (hQ false c0 c0' _ e12 C0 C0' ⟨(fun q => nomatch q), fun q => absurd ?_ yy⟩)⟩
      exact pairwise_one (R := fun a b : Str => sL a < sL b) (fun a b h q => List.lt_asymm h q) asc asc' fun z => by rw [pm.mem_iff, pm'.mem_iff]; exact q.1 z
theorem r_piam (PC : Pr3 K mg Cp Cc) (B : Blt mg) (c_require_prices : Cal P w K mg base 1 "require_prices" (spReqPrices Cp)) (c_closed_of : Cal P w K mg base 3 "closed_of" (spClosedOf Cp Cc)) : ∃ g, Meth K Cp "is_at_most" g ∧ FnR P w K mg base CX0 4 g (fun vs H Q E => spIam3 Cp (vs ++ []) H Q E) := by
  obtain ⟨g, fd, h1, F⟩ := PC.iam
  have b := FunD.bindsN (ps := ["self", "other"]) F fun _ _ _ _ _ _ us hl => match us, hl with | [_, _], _ => rfl
  exact ⟨g, h1, (f_piam PC F B c_require_prices c_closed_of).raw b .nil⟩
end
end MN
/-! == of two lists of three dicts -/
namespace MN
open PySem PySem.Spec PyProof.Rows L2
theorem intKv_inj {κ : Type} : ∀ {ks ls : List (κ × Int)}, intKv ks = intKv ls → ks = ls
  | [], [], _ => rfl
  | [], _ :: _, h => by cases h
  | _ :: _, [], h => by cases h
  | a :: ks, b :: ls, h => by
    have h' : (a.1, V.int a.2) :: intKv ks = (b.1, V.int b.2) :: intKv ls := h
    obtain ⟨h1, h2⟩ := List.cons.inj h'
    obtain ⟨e1, e2⟩ := Prod.mk.inj h1
    injection e2 with e2
    rw [intKv_inj h2, Prod.ext e1 e2]
section
variable {X : Cx} {pins : List (Addr × Obj)} {σ : L2.St} {H : Hp} {s : Shared}
theorem eqP_dK (I : L2.Inv X pins σ H s) {A : Around} (hu : A.units + 3 < cLine) {a b : Addr} {ks ls : List (Key × Int)} (ha : H a = some (.dK (intKv ks))) (hb : H b = some (.dK (intKv ls))) (nd : (ks.map (·.1)).Nodup) : SeqAt.EqP X.prog X.w A s (.ref a) (.ref b) (eqKv ks ls) := by
  by_cases e : a = b
  · subst e
    rw [ha] at hb
    have e2 := intKv_inj (by injection (Option.some.inj hb))
    subst e2
    rw [eqKv_self nd]
    exact (SeqAt.EqAt.same _).eqP
  · refine SeqAt.eqP_refs e fun E Q q => ?_
    obtain ⟨_, ha0, va, ra, da⟩ := I.hok a _ ha
    obtain ⟨_, hb0, vb, rb, db⟩ := I.hok b _ hb
    have la : va.length = ks.length := by rw [← Paired.length ra]; simp [intKv]
    have lb : vb.length = ls.length := by rw [← Paired.length rb]; simp [intKv]
    refine PySem.W.rcP_dicts ha0 hb0 da db (by omega) (fun _ => hitsK rb ra) _ _ ?_
    rw [la, lb]
    exact q
theorem eqP_dT (I : L2.Inv X pins σ H s) {A : Around} (hu : A.units + 3 < cLine) {a b : Addr} {ks ls : List (List Key × Int)} (ha : H a = some (.dT (intKv ks))) (hb : H b = some (.dT (intKv ls))) (nd : (ks.map (·.1)).Nodup) : SeqAt.EqP X.prog X.w A s (.ref a) (.ref b) (eqKv ks ls) := by
  by_cases e : a = b
  · subst e
    rw [ha] at hb
    have e2 := intKv_inj (by injection (Option.some.inj hb))
    subst e2
    rw [eqKv_self nd]
    exact (SeqAt.EqAt.same _).eqP
  · refine SeqAt.eqP_refs e fun E Q q => ?_
    obtain ⟨_, ha0, va, ra, da⟩ := dt_of I.hok ha
    obtain ⟨_, hb0, vb, rb, db⟩ := dt_of I.hok hb
    have la : va.length = ks.length := by rw [← Paired.length ra]; simp [intKv]
    have lb : vb.length = ls.length := by rw [← Paired.length rb]; simp [intKv]
    refine rcH_dicts ha0 hb0 da db (by omega) ?_ (fun _ => hitsT rb ra) _ _ ?_
    · show A.in1.units < cLine
      show A.units + 1 < cLine
      omega
    · rw [la, lb]
      exact q
end
def rEqL3 (K : PySem.W.Frag) : R2 := fun x y H Q => ∃ (a b A B S A' B' S' : Addr) (kA kB lA lB : List (Key × Int)) (kS lS : List (List Key × Int)), x = .ref a ∧ y = .ref b ∧ SqL K H a [.ref A, .ref B, .ref S] ∧ SqL K H b [.ref A', .ref B', .ref S'] ∧
  H A = some (.dK (intKv kA)) ∧ H B = some (.dK (intKv kB)) ∧ H S = some (.dT (intKv kS)) ∧ H A' = some (.dK (intKv lA)) ∧ H B' = some (.dK (intKv lB)) ∧ H S' = some (.dT (intKv lS)) ∧ (kA.map (·.1)).Nodup ∧ (kB.map (·.1)).Nodup ∧ (kS.map (·.1)).Nodup ∧
  Q (.bl (eqKv kA lA && (eqKv kB lB && eqKv kS lS))) H
theorem op_eqL3 {X : Cx} (hu : X.A.units + 64 < cLine) : OpR X (compareOp .Eq) (rEqL3 X.K) := by
  intro pins s σ H x y v u Q I rx ry h
  obtain ⟨a, b, A, B, S, A', B', S', kA, kB, lA, lB, kS, lS, rfl, rfl, ha, hb, hA, hB, hS, hA', hB', hS', n1, n2, n3, q⟩ := h
  obtain rfl : v = Value.ref a := rx
  obtain rfl : u = Value.ref b := ry
  obtain ⟨us, r1, p1, _⟩ := I.list ha
  obtain ⟨ws, r2, p2, _⟩ := I.list hb
  have three : ∀ {xs : List Value} {A B S : Addr}, Vals [V.ref A, .ref B, .ref S] xs → xs = [.ref A, .ref B, .ref S] := fun r => by
    cases r with
    | cons h1 r =>
      cases h1
      cases r with
      | cons h2 r =>
        cases h2
        cases r with
        | cons h3 r =>
          cases h3
          cases r
          rfl
  have e1 := three r1
  have e2 := three r2
  subst e1
  subst e2
  have hu3 : X.A.in1.units + 3 < cLine := by show X.A.units + 1 + 3 < cLine; omega
  show wpAny (model X.prog X.w) X.A (richCompare .Eq (.ref a) (.ref b)) (EP X pins σ Q) X.xe s
  refine SeqAt.rcP_lists (e := fun j => match j with | 0 => eqKv kA lA | 1 => eqKv kB lB | _ => eqKv kS lS) p1.isList p2.isList rfl (by omega) (fun j h1 h2 => ?_) _ _ ?_
  · match j, h1 with
    | 0, _ => exact eqP_dK I hu3 hA hA' n1
    | 1, _ => exact eqP_dK I hu3 hB hB' n2
    | 2, _ => exact eqP_dT I hu3 hS hS' n3
    | j + 3, h1 => exact absurd h1 (by simp)
  · have : ((List.range 3).all fun j => match j with | 0 => eqKv kA lA | 1 => eqKv kB lB | _ => eqKv kS lS) = (eqKv kA lA && (eqKv kB lB && eqKv kS lS)) := by
      rw [show List.range 3 = [0, 1, 2] from rfl]
      simp
    show EP X pins σ Q (.bool ((List.range 3).all _)) s
    rw [this]
    exact ⟨.bl _, H, I, rfl, q⟩
end MN
/-! sorted(d) of a dict with tuples as keys -/
namespace MN
open PySem PySem.Spec PyProof.Rows L2
def rSortKT : List V → Hp → VK → Prop := fun vs H Q => ∃ (d : Addr) (ps : List SP2), vs = [.ref d] ∧ Rd H d (.dT (dtF ps)) ∧ ps.length ≤ 1000 ∧
  ∀ (p : Addr) (bs : List Addr), H p = none → Paired (fun (b : Addr) (e : SP2) => H b = some (.tup [.str e.1.1, .str e.1.2])) bs (ps.mergeSort (PySem.W.dataLe false fun e => .tuple [.str e.1.1, .str e.1.2])) → Q (.ref p) (upd H p (.lst (bs.map V.ref)))
section
variable {X : Cx}
theorem cr_sortedKT (hc : X.calm = true) (hu : X.A.units + 64 < cLine) : CallR X (.builtin "sorted") rSortKT := by
  intro pins s σ H xs us Q I r h
  obtain ⟨d, ps, rfl, hd, hl, q⟩ := h
  obtain ⟨u, rfl, rx⟩ := r.one
  cases rx
  obtain ⟨z, hs, ks, pr, o, es, ep, ho, hx, hdt, he, hn⟩ := (show ObjOk X.prog X.w H s.heap d (.dT (dtF ps)) from hd.ok I.hok)
  have big : 1000 ≤ sizeLine := by decide
  have l1 : es.size = ks.length := size_of_entries he
  have l2 : (dtF ps).length = ks.length := Paired.length pr
  have l3 : (dtF ps).length = ps.length := by simp [dtF]
  refine PySem.Calls.call_function_entry kind_sorted plain_sorted entry_sorted (args_sorted1 _) ?_
  unfold Builtin.«sorted»
  refine wpAny_bind (m := checkCount "sorted" 1 1 _) (wpAny_pure ?_)
  refine wpAny_bind (PySem.W.kdu_collect (A := X.A.in1) (kdl_raw hs hx hdt) (I.ok.hd hc) ho (by omega) fun h' tk acc hk hacc => ?_)
  have ea : acc.toList = ks.map fun x => Value.ref x.2.1 := by
    have hl : acc.toList.length = ks.length := by rw [Array.length_toList, hacc.1]; exact l1
    apply List.ext_getElem?
    intro j
    rw [List.getElem?_map]
    cases hj : acc.toList[j]? with
    | none =>
      have h1 := List.getElem?_eq_none_iff.mp hj
      rw [List.getElem?_eq_none (by omega)]
      all_goals rfl
    | some v =>
      obtain ⟨en, hen, hv⟩ := hacc.2 j v (by rw [← Array.getElem?_toList]; exact hj)
      have qe := entry_at he j
      rw [hen] at qe
      cases hb : ks[j]? with
      | none =>
        rw [hb] at qe
        exact nomatch (show some en = none from qe)
      | some b =>
        rw [hb] at qe
        have e2 : en = entryOfKey (tupleKind (mixKind X.prog X.w)) b := Option.some.inj qe
        rw [hv, e2]
        all_goals rfl
  have J : L2.Inv X pins σ H { s with heap := h', toks := tk } := I.kept hk
  let as : List Addr := ks.map fun x => x.2.1
  have lak : as.length = ps.length := by show (ks.map _).length = _; rw [List.length_map]; omega
  let bs : List (Addr × SP2) := as.zip ps
  let vs : List Value := as.map Value.ref
  have evs : acc.toList = vs := by rw [ea]; show _ = (ks.map _).map _; rw [List.map_map]; rfl
  have lvb : vs.length = bs.length := by show (as.map _).length = (as.zip ps).length; rw [List.length_map, List.length_zip, lak, Nat.min_self]
  have bsAt : ∀ (i : Nat) (b : Addr × SP2), bs[i]? = some b → as[i]? = some b.1 ∧ ps[i]? = some b.2 := fun i b h => List.getElem?_zip_eq_some.mp h
  have vsAt : ∀ (i : Nat) (v : Value) (b : Addr × SP2), vs[i]? = some v → bs[i]? = some b → v = .ref b.1 := fun i v b h1 h2 => by
    have h1' : (as.map Value.ref)[i]? = some v := h1
    rw [List.getElem?_map, (bsAt i b h2).1] at h1'
    exact (Option.some.inj h1').symm
  have tupAt : ∀ (i : Nat) (b : Addr × SP2), bs[i]? = some b → H b.1 = some (.tup [.str b.2.1.1, .str b.2.1.2]) := fun i b h => by
    obtain ⟨h1, h2⟩ := bsAt i b h
    have h4 : (dtF ps)[i]? = some ([Sum.inr b.2.1.1, Sum.inr b.2.1.2], V.int b.2.2) := by unfold dtF; rw [List.getElem?_map, h2]; rfl
    obtain ⟨x', hx1, r1, r2, r3⟩ := LiI.paired_get pr h4
    have h1' : (ks.map fun x => x.2.1)[i]? = some b.1 := h1
    rw [List.getElem?_map, hx1] at h1'
    rw [← Option.some.inj h1']
    exact r2
  have bsM : ∀ b ∈ bs, ∃ i : Nat, bs[i]? = some b := fun b hb => List.mem_iff_getElem?.mp hb
  let dat : SP2 → PyData := fun e => .tuple [.str e.1.1, .str e.1.2]
  have bm : bs.map (fun b => dat b.2) = ps.map dat := by
    show (as.zip ps).map (dat ∘ Prod.snd) = _
    rw [← List.map_map, List.map_snd_zip (by omega)]
  have rd : ∀ (i : Nat) (v : Value) (b : Addr × SP2), vs[i]? = some v → bs[i]? = some b → ∃ aa, Reads h' v (dat b.2) aa := fun i v b h1 h2 => by
    have := vsAt i v b h1 h2
    subst this
    exact Dp.reads J (dat b.2) (.ref b.1) _ (.tup (.inl (.inl (tupAt i b h2))) (.cons (.str _) (.cons (.str _) .nil))) rfl
  have hal : PySem.W.AllAlike (ps.map dat) := by
    intro a ha b hb
    obtain ⟨x, _, rfl⟩ := List.mem_map.mp ha
    obtain ⟨y, _, rfl⟩ := List.mem_map.mp hb
    rfl
  have hso : PySem.W.Sortable (ps.map dat) := .inl fun a ha => by
    obtain ⟨x, _, rfl⟩ := List.mem_map.mp ha
    exact ⟨_, _, rfl⟩
  rw [evs]
  refine wpAny_bind (wpAny_newList ?_ (by show (as.map _).length ≤ _; rw [List.length_map]; omega))
  let N := h'.objs.size
  have hN : (h'.push { cls := .type "list", data := .seq vs.toArray }).get? N = some (seqObj "list" vs.toArray 0) := Heap.get?_push_size _ rfl
  have old : ∀ b o, h'.get? b = some o → (PySem.W.sortingHeap (h'.push { cls := .type "list", data := .seq vs.toArray }) N vs).get? b = some o := fun b o e => PySem.W.sortingHeap_old (Nat.ne_of_lt (Heap.lt_size e)) (Heap.get?_push_of_some _ e)
  have er' : PySem.W.EachIs (fun v (b : Addr × SP2) => ∃ aa, Reads (PySem.W.sortingHeap (h'.push { cls := .type "list", data := .seq vs.toArray }) N vs) v (dat b.2) aa) vs bs := each_of lvb fun i v b h1 h2 => by
    obtain ⟨aa, r⟩ := rd i v b h1 h2
    exact ⟨aa, PyProof.Rows.Reads.keeps old r⟩
  have hu2 : ∀ b, b ∈ bs → X.A.in1.in1.units + (dat b.2).depth < cLine := fun b hb => by
    show X.A.units + 1 + 1 + _ < _
    have : (dat b.2).depth ≤ 8 := by simp [dat, PyData.depth, PyData.depthAll]
    omega
  have sv := PySem.W.sortVals_data (h' := PySem.W.sortingHeap (h'.push { cls := .type "list", data := .seq vs.toArray }) N vs) (R := fun v (b : Addr × SP2) => v = .ref b.1) (enc := fun b : Addr × SP2 => dat b.2) false (each_of lvb fun i v b h1 h2 => vsAt i v b h1 h2) er' (by rw [bm]; exact hal)
  have ev := each_map_eq (f := fun b : Addr × SP2 => Value.ref b.1) sv
  have SA := PySem.W.SortsAt.data (prog := X.prog) (w := X.w) (A := X.A.in1.in1) (s := { s with heap := PySem.W.sortingHeap (h'.push { cls := .type "list", data := .seq vs.toArray }) N vs, toks := tk }) (PySem.W.each_map (R := fun v d => ∃ as, Reads (PySem.W.sortingHeap (h'.push { cls := .type "list", data := .seq vs.toArray }) N vs) v d as) (fun b : Addr × SP2 => dat b.2) er') (by rw [bm]; exact hal) (by rw [bm]; exact hso) (PySem.W.bound_map hu2)
  refine wpAny_bind (wpAny_holding (wpAny_call_entry PyProof.Rows.slot_list_sort ⟨_, hN, rfl⟩ PyProof.Rows.entry_list_sort (PySem.W.list_sort_vals (s := { s with heap := h'.push { cls := .type "list", data := .seq vs.toArray }, toks := tk }) hN SA (by show (as.map _).length ≤ _; rw [List.length_map]; omega) ?_)))
  refine ⟨_, rfl, wpAny_pure ⟨_, rfl, ?_⟩⟩
  let ms : List (Addr × SP2) := bs.mergeSort (PySem.W.dataLe false fun b => dat b.2)
  have msM : ∀ b ∈ ms, ∃ i : Nat, bs[i]? = some b := fun b hb => bsM b ((List.mergeSort_perm ..).mem_iff.mp hb)
  show EP X pins σ Q (.ref N) { s with heap := sortedHeap (h'.push { cls := .type "list", data := .seq vs.toArray }) N vs (PySem.W.sortVals _ false vs vs).toArray, toks := tk }
  rw [ev]
  obtain ⟨c, hc⟩ := sortedHeap_at (out := (ms.map fun b => Value.ref b.1).toArray) hN
  have lms : ms.length = ps.length := by show (bs.mergeSort _).length = _; rw [List.length_mergeSort, ← lvb]; show (as.map _).length = _; rw [List.length_map]; omega
  refine ⟨.ref N, upd H N (.lst ((ms.map Prod.fst).map V.ref)), J.laid (t' := tk) (fun b o e => (sortedHeap_old (Nat.ne_of_lt (Heap.lt_size e)) (by rw [Heap.size_push]; exact Nat.lt_succ_of_lt (Heap.lt_size e))).trans (Heap.get?_push_of_some _ e)) (Nat.le_refl _) ⟨by rw [List.length_map, List.length_map]; omega, ms.map fun b => Value.ref b.1, c, ?_, hc⟩, rfl, q N (ms.map Prod.fst) (J.hok.fresh (Nat.le_refl _)) ?_⟩
  · generalize ms = l
    induction l with
    | nil => exact .nil
    | cons b l ih => exact .cons rfl ih
  · have e2 : ps.mergeSort (PySem.W.dataLe false dat) = ms.map Prod.snd := by
      have h1 : (as.zip ps).map Prod.snd = ps := List.map_snd_zip (by omega)
      conv => lhs; rw [← h1]
      exact (List.map_mergeSort (f := Prod.snd) (l := as.zip ps) (r := PySem.W.dataLe false fun b : Addr × SP2 => dat b.2) (s := PySem.W.dataLe false dat) (fun a _ b _ => rfl)).symm
    show Paired _ (ms.map Prod.fst) (ps.mergeSort (PySem.W.dataLe false dat))
    rw [e2]
    have key : ∀ b ∈ ms, H b.1 = some (.tup [.str b.2.1.1, .str b.2.1.2]) := fun b hb => by
      obtain ⟨i, hi⟩ := msM b hb
      exact tupAt i b hi
    generalize ms = l at key
    induction l with
    | nil => exact .nil
    | cons b l ih => exact .cons (key b List.mem_cons_self) (ih fun c hc => key c (List.mem_cons_of_mem _ hc))
end
end MN
/-! _law_is_told of k03 -/
namespace MN
open PySem PySem.Spec PyProof.Rows L2
/-- a comprehension each item of which is a new object -/
theorem lc_newL {J : It} {n : Nat} {G : Hp → Prop} {Y : Nat → Hp → V → Hp → Prop} (w : Walk J n G Y) (xs : List V) (hn : xs.length = n) (hz : n ≤ 1000) (hY : ∀ i H x H', i < n → Y i H x H' → H' = H ∧ xs[i]? = some x)
    {j : Nat} {te : TE} {vs : List Nat} {σ : L2.St} {H1 : Hp} {D : Addr} {Qd : Hp → Prop} (hD : H1 D = none) (hG : ∀ H', Same H1 H' → G H')
    (hw : ∀ x ∈ xs, wipe ((wipe σ vs).set j (some x)) vs = wipe σ vs)
    (R : Nat → Addr → Hp → Prop) (hR : ∀ k v H H', (∀ b o, b ≠ D → H b = some o → H' b = some o) → (∃ xs, H D = some (.lst xs)) → v ≠ D → R k v H → R k v H') (hE : ∀ k v H, R k v H → ∃ o, H v = some o)
    (he : ∀ (i : Nat) (x : V), xs[i]? = some x → ∀ H2, Same H1 H2 → (∃ o, H2 D = some o) → ∀ Q : VK, (∀ y H3, H2 y = none → Same H2 H3 → R i y H3 → Q (.ref y) H3) → te ((wipe σ vs).set j (some x)) H2 Q)
    (hd : ∀ (H' : Hp) (qs : List Addr), Same H1 H' → H' D = some (.lst (qs.map V.ref)) → qs.Nodup → D ∉ qs → qs.length = n → (∀ (k : Nat) (q : Addr), qs[k]? = some q → R k q H') → Qd H') : LcGoal J (gName j) tYes te vs σ H1 D Qd := by
  refine lc_it w (fun i H' => Same H1 H' ∧ ∃ qs : List Addr, H' D = some (.lst (qs.map V.ref)) ∧ qs.Nodup ∧ D ∉ qs ∧ qs.length = i ∧ ∀ (k : Nat) (v : Addr), qs[k]? = some v → R k v H') ⟨same_new hD, [], upd_same, List.nodup_nil, by simp, rfl, fun k v z => by simp at z⟩ (fun i H' _ e => hG _ e.1) (fun i x H H' hi e y => ?_) (fun H' e => ?_)
  · obtain ⟨rfl, hx⟩ := hY i H x H' hi y
    obtain ⟨e1, qs, e2, nd, nD, e3, e4⟩ := e
    refine ⟨hw _ (List.mem_of_getElem? hx), yes_q (iteT ?_)⟩
    refine he i _ hx _ e1 ⟨_, e2⟩ _ fun y H3 fy s3 r3 => ⟨qs.map V.ref, s3 _ _ e2, ?_, fun b o q => ?_, qs ++ [y], by rw [upd_same, List.map_append]; rfl, ?_, ?_, by rw [List.length_append, e3]; rfl, fun k v z => ?_⟩
    · have : 1000000 < sizeLine := by decide
      rw [List.length_map]
      omega
    · rw [upd_ne (ne_of_none q hD)]
      exact s3 _ _ (e1 _ _ q)
    · rw [List.nodup_append]
      refine ⟨nd, by simp, fun q hq q' hq' z => ?_⟩
      rw [List.mem_singleton.mp hq'] at z
      obtain ⟨k, hk⟩ := List.mem_iff_getElem?.mp hq
      obtain ⟨o, ho⟩ := hE _ _ _ (e4 k q hk)
      rw [z, fy] at ho
      cases ho
    · intro z
      rcases List.mem_append.mp z with z | z
      · exact nD z
      · rw [← List.mem_singleton.mp z, e2] at fy
        cases fy
    · have up : ∀ b o, b ≠ D → H3 b = some o → upd H3 D (.lst (qs.map V.ref ++ [.ref y])) b = some o := fun b o n q => by rw [upd_ne n]; exact q
      have yD : y ≠ D := fun z => by rw [z, e2] at fy; cases fy
      rcases Nat.lt_or_ge k qs.length with hk | hk
      · rw [List.getElem?_append_left hk] at z
        exact hR _ _ _ _ (fun b o n q => up b o n (s3 _ _ q)) ⟨_, e2⟩ (fun q => nD (by rw [← q]; exact List.mem_of_getElem? z)) (e4 k v z)
      · rw [List.getElem?_append_right hk] at z
        have hk2 : k - qs.length = 0 := by
          have := (List.getElem?_eq_some_iff.mp z).1
          simp at this
          omega
        rw [hk2] at z
        obtain rfl : y = v := by simpa using z
        obtain rfl : k = i := by omega
        exact hR _ _ _ _ up ⟨_, s3 _ _ e2⟩ yD r3
  · obtain ⟨e1, qs, e2, nd, nD, e3, e4⟩ := e
    exact hd H' qs e1 e2 nd nD e3 e4
def dTold3 (ys : List Str) (g o : Str → Int) (qs : List SP2) : List PyData := [.list (ys.map (dPair g)), .list (ys.map (dPair o)), .list (qs.map dSwap)]
theorem told3_shows {ys : List Str} {g o : Str → Int} {qs : List SP2} (N : PrN ys ys g o qs) : isDisplay (.list (dTold3 ys g o qs)) = true ∧ (PyData.list (dTold3 ys g o qs)).showable = true ∧ (PyData.list (dTold3 ys g o qs)).hasDict = false ∧ (PyData.list (dTold3 ys g o qs)).depth ≤ 60 ∧ (PyData.list (dTold3 ys g o qs)).shown.length ≤ sizeLine := by
  have l5 := N.le
  have l100 := N.sl
  have pr : ∀ {f : Str → Int}, (∀ z ∈ ys, 1 ≤ f z ∧ f z ≤ 9) → Sm 2 300 (.list (ys.map (dPair f))) := fun {f} hf => by
    have h1 : ∀ d ∈ ys.map (dPair f), Sm 1 42 d := fun d hd => by
      obtain ⟨z, hz, rfl⟩ := List.mem_map.mp hd
      have b := hf z hz
      refine (Sm.tuple (n := 0) (w := 20) fun e he => ?_).mono (by omega) (by simp)
      rcases List.mem_cons.mp he with rfl | he
      · exact (Sm.sign (N.sg z hz)).mono (by omega) (by omega)
      · rw [List.mem_singleton.mp he]
        exact .int (by omega) (by omega)
    refine (Sm.list h1).mono (by omega) ?_
    rw [List.length_map]
    have := Nat.mul_le_mul_right 43 l5
    omega
  have sw : Sm 3 6000 (.list (qs.map dSwap)) := by
    have h1 : ∀ d ∈ qs.map dSwap, Sm 2 50 d := fun d hd => by
      obtain ⟨e, he, rfl⟩ := List.mem_map.mp hd
      obtain ⟨a, b, _, c1, c2⟩ := N.sp e he
      refine (Sm.tuple (n := 1) (w := 20) fun f hf => ?_).mono (by omega) (by simp)
      rcases List.mem_cons.mp hf with rfl | hf
      · refine (Sm.tuple (n := 0) (w := 1) fun f hf => ?_).mono (by omega) (by simp)
        rcases List.mem_cons.mp hf with rfl | hf
        · exact .sign (N.sg _ a)
        · rw [List.mem_singleton.mp hf]
          exact .sign (N.sg _ b)
      · rw [List.mem_singleton.mp hf]
        exact (Sm.int (by omega) (by omega)).mono (by omega) (by omega)
    refine (Sm.list h1).mono (by omega) ?_
    rw [List.length_map]
    have := Nat.mul_le_mul_right 51 l100
    omega
  have top : Sm 4 18003 (.list (dTold3 ys g o qs)) := by
    refine (Sm.list (n := 3) (w := 6000) fun d hd => ?_).mono (by omega) (by simp [dTold3])
    unfold dTold3 at hd
    rcases List.mem_cons.mp hd with rfl | hd
    · exact (pr N.pg).mono (by omega) (by omega)
    rcases List.mem_cons.mp hd with rfl | hd
    · exact (pr N.po).mono (by omega) (by omega)
    · rw [List.mem_singleton.mp hd]
      exact sw
  exact top.shows (by omega) (by decide)
/-- the three lists of pairs -/
structure T3 (H : Hp) (ys : List Str) (g o : Str → Int) (qs : List SP2) (p1 p2 p3 : Addr) (ts1 ts2 ts3 : List Addr) : Prop where
  l1 : H p1 = some (.lst (ts1.map V.ref))
  k1 : Paired (fun (t : Addr) (z : Str) => H t = some (.tup [.str z, .int (g z)])) ts1 ys
  l2 : H p2 = some (.lst (ts2.map V.ref))
  k2 : Paired (fun (t : Addr) (z : Str) => H t = some (.tup [.str z, .int (o z)])) ts2 ys
  l3 : H p3 = some (.lst (ts3.map V.ref))
  k3 : Paired (fun (t : Addr) (e : SP2) => ∃ q, H t = some (.tup [.ref q, .int e.2]) ∧ H q = some (.tup [.str e.1.1, .str e.1.2])) ts3 qs
theorem T3.dp {K : PySem.W.Frag} {H : Hp} {ys : List Str} {g o : Str → Int} {qs : List SP2} {p1 p2 p3 : Addr} {ts1 ts2 ts3 : List Addr} (h : T3 H ys g o qs p1 p2 p3 ts1 ts2 ts3) {T : Addr} (hT : H T = some (.lst [.ref p1, .ref p2, .ref p3])) : Dp K H (.ref T) (.list (dTold3 ys g o qs)) :=
  .lst (SqL.of hT) (.cons (.lst (SqL.of h.l1) (dpPairs h.k1)) (.cons (.lst (SqL.of h.l2) (dpPairs h.k2)) (.cons (.lst (SqL.of h.l3) (dpSwaps h.k3)) .nil)))
theorem T3.same {H H' : Hp} {ys : List Str} {g o : Str → Int} {qs : List SP2} {p1 p2 p3 : Addr} {ts1 ts2 ts3 : List Addr} (h : T3 H ys g o qs p1 p2 p3 ts1 ts2 ts3) (e : Same H H') : T3 H' ys g o qs p1 p2 p3 ts1 ts2 ts3 :=
  ⟨e _ _ h.l1, pair_same e h.k1, e _ _ h.l2, pair_same e h.k2, e _ _ h.l3, swap_same e h.k3⟩
theorem pair_congr {H : Hp} {f f' : Str → Int} : ∀ {ts : List Addr} {ys : List Str}, (∀ z ∈ ys, f z = f' z) → Paired (fun (t : Addr) (z : Str) => H t = some (.tup [.str z, .int (f z)])) ts ys → Paired (fun (t : Addr) (z : Str) => H t = some (.tup [.str z, .int (f' z)])) ts ys
  | _, _, _, .nil => .nil
  | _, z :: _, e, .cons h r => .cons (by rw [← e z List.mem_cons_self]; exact h) (pair_congr (fun y hy => e y (List.mem_cons_of_mem _ hy)) r)
section
variable {P : Program} {w : World} {K : PySem.W.Frag} {mg : Str → Option Value} {base : Heap} {Cp : Addr}
def spTold3 (Cp : Addr) : Sp := fun vs H Q _ => ∃ x t zs g o ps zs' zs2' g' o' ps', vs = [.ref x, .ref t] ∧ PrS Cp H x zs g o ps ∧ Rec H t zs' zs2' g' o' ps' ∧ PrN zs' zs2' g' o' ps' ∧ SameRec zs g o ps zs' g' o' ps' ∧ ∀ H', Same H H' → Q (.bl true) H'
abbrev N_law_is_told : List Str := ["_law_prices", "_law_tables_here", "_law_told", "_law_table"]
theorem sc_law_is_told : FnScope N_law_is_told ["_law_prices", "_law_tables_here"] (defScope (top 38)) := ⟨rfl, rfl, rfl, by decide +kernel, rfl, by decide +kernel, by decide +kernel⟩
theorem c_law_is_told3 (A : At K mg "_law_is_told" (top 38)) (B : Blt mg) (PD : PrD K mg Cp) : CalG P w K mg base 3 "_law_is_told" (spTold3 Cp) := by
  obtain ⟨⟨pp1, pg1, hpp, Fp⟩, ⟨pp2, pg2, hpo, Fo⟩, ⟨pp3, pg3, hpw, Fw⟩⟩ := r_props2 (P := P) (w := w) (base := base) PD B
  refine calG_of A sc_law_is_told (fun _ _ _ _ _ _ us hl => match us, hl with | [_, _], _ => rfl) (fun vs H Q E h => ?_) (fun _ cdv A outer s H vs Q E gd hr h => ?_)
  · obtain ⟨_, _, _, _, _, _, _, _, _, _, _, rfl, _⟩ := h; rfl
  · obtain ⟨x, t, zs, g, o, ps, zs', zs2', g', o', ps', rfl, PS, RC, N', SR, hQ⟩ := h
    refine ⟨_, (pss_cons (ps_set (i := 2) sc_law_is_told.nd rfl (Or.inl rfl) (pe_lst (pa_cons (pe_callB (cr_sortedK rfl hr.units) (by rfl) B.sorted (by decide +kernel) (pa_cons (pe_items (SlX.pe_propSl (E := E0) (pv 0) PD.sp.sc hpp.at_ hpp.get hpp.tak hpp.rec_ Fp (hr.mono (by decide)) (fun _ _ _ _ h => h))) pa_nil)) (pa_cons (pe_callB (cr_sortedK rfl hr.units) (by rfl) B.sorted (by decide +kernel) (pa_cons (pe_items (SlX.pe_propSl (E := E0) (pv 0) PD.sp.sc hpo.at_ hpo.get hpo.tak hpo.rec_ Fo (hr.mono (by decide)) (fun _ _ _ _ h => h))) pa_nil)) (pa_cons (pe_callB (cr_sortedT rfl hr.units) (by rfl) B.sorted (by decide +kernel) (pa_cons (pe_items (SlX.pe_propSl (E := E0) (pv 0) PD.sp.sc hpw.at_ hpw.get hpw.tak hpw.rec_ Fw (hr.mono (by decide)) (fun _ _ _ _ h => h))) pa_nil)) pa_nil)))))
      (pss_one (ps_ret (pe_cmpR op_eq (pe_callB (call_repr gd hr.units) (by rfl) B.repr (by decide +kernel) (pa_cons (pv 2) pa_nil)) (pe_callB (call_repr gd hr.units) (by rfl) B.repr (by decide +kernel) (pa_cons (pe_lc (own := [("_law_table", 3)]) (g := gName 3) (tt := tYes) (by rfl) sc_law_is_told.nd (pi_list (pv 1)) (blkOk_by (own := [("_law_table", 3)]) (N := N_law_is_told) (sc := defScope (top 38)) (by decide +kernel)) (fun _ _ _ _ _ => (pg_name (i := 3) sc_law_is_told.nd rfl (Or.inl rfl))) (fun _ _ _ _ _ => pts_nil)
        (fun _ _ _ _ _ => pe_or2 (pe_callB (cr_sortedK rfl hr.units) (by rfl) B.sorted (by decide +kernel) (pa_cons (pe_items (pv 3)) pa_nil)) (pe_callB (cr_sortedT rfl hr.units) (by rfl) B.sorted (by decide +kernel) (pa_cons (pe_items (pv 3)) pa_nil)))) pa_nil)) (nomark _))))), ?_⟩
    have three : 3 ≤ sizeLine := by decide
    obtain ⟨RA, RB, RS, ht, hA, hB, hS⟩ := id RC
    obtain ⟨dx, ys, qs, hP, NY, pm, asc, pq, srt⟩ := id PS
    have l5 := NY.le
    have l5' := N'.le
    have l52' := N'.pm.length_eq
    have l100 := NY.sl
    have l100' := N'.sl
    have inst : ∀ {H' : Hp}, Same H H' → ∃ ws, SlX.Slt H' x Cp dx ws := fun e => (hP.same e).inst
    -- one order
    have pz : ys.Perm zs' := by
      rw [List.perm_ext_iff_of_nodup NY.nd N'.nd]
      intro z
      rw [pm.mem_iff]
      exact SR.1 z
    have pp : qs.Perm ps' := by
      rw [List.perm_ext_iff_of_nodup (nodup_of_map _ NY.sn) (nodup_of_map _ N'.sn)]
      intro e
      rw [pq.mem_iff]
      exact SR.2.2.2 e
    have eg : ∀ z ∈ ys, g' z = g z := fun z hz => (SR.2.1 z (pm.mem_iff.mp hz)).symm
    have eo : ∀ z ∈ ys, o' z = o z := fun z hz => (SR.2.2.1 z (pm.mem_iff.mp hz)).symm
    -- told
    obtain ⟨ws, sl⟩ := inst (Same.refl H)
    refine ⟨_, rfl, x, dx, ws, rfl, sl, x, dx, ys, ys, g, o, qs, rfl, hP, NY, fun d1 H1 f1 e1 u1 => ⟨d1, rfl, .inl ⟨_, u1⟩, fun r hr1 => ⟨r, d1, ys, g, rfl, upd_same, same_new hr1 _ _ u1, by omega, fun H2 p1 ts1 e2 f2 h1 k1 => ?_⟩⟩⟩
    rw [sorted_oneK (List.Perm.refl ys) NY.nd g asc] at k1
    have E2 := (e1.trans (same_new (o := ViewO r d1) hr1)).trans e2
    clear e1 hr1 e2 f1 f2 u1
    obtain ⟨ws, sl⟩ := inst E2
    refine ⟨_, rfl, x, dx, ws, rfl, sl, x, dx, ys, ys, g, o, qs, rfl, hP.same E2, NY, fun d2 H3 f3 e3 u3 => ⟨d2, rfl, .inl ⟨_, u3⟩, fun r hr3 => ⟨r, d2, ys, o, rfl, upd_same, same_new hr3 _ _ u3, by omega, fun H4 p2 ts2 e4 f4 h2 k2 => ?_⟩⟩⟩
    rw [sorted_oneK (List.Perm.refl ys) NY.nd o asc] at k2
    have s34 := (e3.trans (same_new (o := ViewO r d2) hr3)).trans e4
    have E4 := E2.trans s34
    clear e3 hr3 e4 f3 f4 u3 E2
    obtain ⟨ws, sl⟩ := inst E4
    refine ⟨_, rfl, x, dx, ws, rfl, sl, x, dx, ys, ys, g, o, qs, rfl, hP.same E4, NY, fun d3 H5 f5 e5 u5 => ⟨d3, rfl, .inr ⟨_, u5⟩, fun r hr5 => ⟨r, d3, qs, rfl, upd_same, same_new hr5 _ _ u5, by omega, fun H6 p3 ts3 e6 f6 h3 k3 => ⟨three, fun T1 hT1 => ?_⟩⟩⟩⟩
    rw [sorted_oneT (List.Perm.refl qs) NY.sn srt] at k3
    have s56 := (e5.trans (same_new (o := ViewO r d3) hr5)).trans e6
    have E6 := E4.trans s56
    have TA6 : T3 H6 ys g o qs p1 p2 p3 ts1 ts2 ts3 := ⟨s56 _ _ (s34 _ _ h1), pair_same (s34.trans s56) k1, s56 _ _ h2, pair_same s56 k2, h3, k3⟩
    have e7 := same_new (o := .lst [.ref p1, .ref p2, .ref p3]) hT1
    have TA7 := TA6.same e7
    have uT1 : upd H6 T1 (.lst [.ref p1, .ref p2, .ref p3]) T1 = some (.lst [.ref p1, .ref p2, .ref p3]) := upd_same
    have E7 := E6.trans e7
    generalize upd H6 T1 (.lst [.ref p1, .ref p2, .ref p3]) = H7 at TA7 uT1 E7 ⊢
    clear e5 hr5 e6 f5 f6 u5 E4 E6 s34 s56 TA6 e7 hT1 h1 k1 h2 k2 h3 k3 sl
    have sh := told3_shows NY
    refine ⟨_, rfl, .ref T1, _, rfl, TA7.dp uT1, sh.1, sh.2.1, sh.2.2.1, sh.2.2.2.1, sh.2.2.2.2, _, rfl, t, rfl, ⟨_, SqL.of (E7 _ _ ht)⟩, fun D hD => ?_⟩
    refine lc_newL walk_list [.ref RA, .ref RB, .ref RS] rfl (by show 3 ≤ 1000; decide) (fun _ _ _ _ _ y => y) hD (fun H' e => SqL.of (e _ _ (E7 _ _ ht))) (fun _ _ => by kernel_rfl)
      (fun k v H' => (∃ u, H' v = some u) ∧ (k = 0 → ∃ ts, H' v = some (.lst (ts.map V.ref)) ∧ Paired (fun (t : Addr) (z : Str) => H' t = some (.tup [.str z, .int (g z)])) ts ys) ∧ (k = 1 → ∃ ts, H' v = some (.lst (ts.map V.ref)) ∧ Paired (fun (t : Addr) (z : Str) => H' t = some (.tup [.str z, .int (o z)])) ts ys) ∧ (k = 2 → ∃ ts, H' v = some (.lst (ts.map V.ref)) ∧ Paired (fun (t : Addr) (e : SP2) => ∃ q, H' t = some (.tup [.ref q, .int e.2]) ∧ H' q = some (.tup [.str e.1.1, .str e.1.2])) ts qs))
      (fun k v Ha Hb up hD n r => ?_) (fun _ _ _ r => r.1) (fun i y hy H8 e8 _ Q' q' => ?_) (fun H8 qs' e8 u8 nq nD lq r8 => ?_)
    · obtain ⟨xs, hD⟩ := hD
      have nt : ∀ {b : Addr} {zs : List V}, Ha b = some (.tup zs) → Hb b = some (.tup zs) := fun h => up _ _ (fun z => by rw [z, hD] at h; cases h) h
      refine ⟨r.1.imp fun u h => up _ _ n h, fun e => (r.2.1 e).imp fun ts h => ⟨up _ _ n h.1, L2.Paired.mapP h.2 fun _ _ h => nt h⟩, fun e => (r.2.2.1 e).imp fun ts h => ⟨up _ _ n h.1, L2.Paired.mapP h.2 fun _ _ h => nt h⟩, fun e => (r.2.2.2 e).imp fun ts h => ⟨up _ _ n h.1, L2.Paired.mapP h.2 fun _ _ h => h.imp fun q h => ⟨nt h.1, nt h.2⟩⟩⟩
    · have E8 := E7.trans e8
      match i, hy with
      | 0, hy =>
        cases hy
        refine .inl ⟨_, rfl, RA, rfl, .inl ⟨_, E8 _ _ hA⟩, fun r hr1 => ⟨r, RA, zs', g', rfl, upd_same, same_new hr1 _ _ (E8 _ _ hA), by omega, fun H9 q1 rs1 e9 f9 h9 k9 => ?_⟩⟩
        rw [sorted_oneK pz N'.nd g' asc] at k9
        exact q' q1 H9 (Same.free (same_new hr1) f9) ((same_new hr1).trans e9) ⟨⟨_, h9⟩, fun _ => ⟨rs1, h9, pair_congr eg k9⟩, fun e => absurd e (by decide), fun e => absurd e (by decide)⟩
      | 1, hy =>
        cases hy
        refine .inl ⟨_, rfl, RB, rfl, .inl ⟨_, E8 _ _ hB⟩, fun r hr1 => ⟨r, RB, zs2', o', rfl, upd_same, same_new hr1 _ _ (E8 _ _ hB), by omega, fun H9 q1 rs1 e9 f9 h9 k9 => ?_⟩⟩
        rw [sorted_oneK (pz.trans N'.pm.symm) (N'.pm.nodup_iff.mpr N'.nd) o' asc] at k9
        exact q' q1 H9 (Same.free (same_new hr1) f9) ((same_new hr1).trans e9) ⟨⟨_, h9⟩, fun e => absurd e (by decide), fun _ => ⟨rs1, h9, pair_congr eo k9⟩, fun e => absurd e (by decide)⟩
      | 2, hy =>
        cases hy
        refine .inr ⟨_, rfl, RS, rfl, .inr ⟨_, E8 _ _ hS⟩, fun r hr1 => ⟨r, RS, ps', rfl, upd_same, same_new hr1 _ _ (E8 _ _ hS), by omega, fun H9 q1 rs1 e9 f9 h9 k9 => ?_⟩⟩
        rw [sorted_oneT pp N'.sn srt] at k9
        exact q' q1 H9 (Same.free (same_new hr1) f9) ((same_new hr1).trans e9) ⟨⟨_, h9⟩, fun e => absurd e (by decide), fun e => absurd e (by decide), fun _ => ⟨rs1, h9, k9⟩⟩
      | i + 3, hy => cases hy
    · obtain ⟨q0, q1, q2, rfl⟩ : ∃ a b c, qs' = [a, b, c] := by
        match qs', lq with
        | [a, b, c], _ => exact ⟨a, b, c, rfl⟩
      obtain ⟨r1, a1, a2⟩ := (r8 0 q0 rfl).2.1 rfl
      obtain ⟨r2, b1, b2⟩ := (r8 1 q1 rfl).2.2.1 rfl
      obtain ⟨r3, c1, c2⟩ := (r8 2 q2 rfl).2.2.2 rfl
      have TB : T3 H8 ys g o qs q0 q1 q2 r1 r2 r3 := ⟨a1, a2, b1, b2, c1, c2⟩
      refine ⟨.ref D, _, rfl, TB.dp u8, sh.1, sh.2.1, sh.2.2.1, sh.2.2.2.1, sh.2.2.2.2, rfl, ?_⟩
      rw [show decide (V.str (PyData.list (dTold3 ys g o qs)).shown = V.str (PyData.list (dTold3 ys g o qs)).shown) = true by simp]
      exact hQ _ (E7.trans e8)
end
end MN
/-! _law_kinds -/
namespace MN
open PySem PySem.Spec PyProof.Rows L2
/-- a pair of a kind of change and its price -/
def KindAt (H : Hp) (zs zs2 : List Str) (g o : Str → Int) (ps : List SP2) (t : Addr) : Prop := ∃ k n, H t = some (.tup [.ref k, .int n]) ∧ ((∃ z ∈ zs, H k = some (.tup [.str "put", .str z]) ∧ n = g z) ∨ (∃ z ∈ zs2, H k = some (.tup [.str "out", .str z]) ∧ n = o z) ∨ ∃ e ∈ ps, H k = some (.tup [.str "swap", .str e.1.1, .str e.1.2]) ∧ n = e.2)
theorem KindAt.tk {H H' : Hp} {zs zs2 : List Str} {g o : Str → Int} {ps : List SP2} {t : Addr} (h : KindAt H zs zs2 g o ps t) (e : TK H H') : KindAt H' zs zs2 g o ps t := by
  obtain ⟨k, n, h1, h2⟩ := h
  refine ⟨k, n, e _ _ h1, ?_⟩
  rcases h2 with ⟨z, a, b, c⟩ | ⟨z, a, b, c⟩ | ⟨z, a, b, c⟩
  · exact .inl ⟨z, a, e _ _ b, c⟩
  · exact .inr (.inl ⟨z, a, e _ _ b, c⟩)
  · exact .inr (.inr ⟨z, a, e _ _ b, c⟩)
section
variable {P : Program} {w : World} {K : PySem.W.Frag} {mg : Str → Option Value} {base : Heap}
def spKinds : Sp := fun vs H Q _ => ∃ t zs zs2 g o ps, vs = [.ref t] ∧ Rec H t zs zs2 g o ps ∧ PrN zs zs2 g o ps ∧ ∀ (l : Addr) (ts : List Addr) H', Same H H' → H' l = some (.lst (ts.map V.ref)) → (∀ t ∈ ts, KindAt H' zs zs2 g o ps t) → Q (.ref l) H'
abbrev N_law_kinds : List Str := ["_law_tables_here", "_law_found", "_law_sign", "_law_pair"]
theorem sc_law_kinds : FnScope N_law_kinds ["_law_tables_here"] (defScope (top 39)) := ⟨rfl, rfl, rfl, by decide +kernel, rfl, by decide +kernel, by decide +kernel⟩
theorem c_law_kinds (A : At K mg "_law_kinds" (top 39)) (B : Blt mg) : Cal P w K mg base 1 "_law_kinds" spKinds := by
  refine cal_of A sc_law_kinds (fun _ _ _ _ _ _ us hl => match us, hl with | [_], _ => rfl) (fun vs H Q E h => ?_) (fun _ cdv A outer s H vs Q E hr h => ?_)
  · obtain ⟨_, _, _, _, _, _, rfl, _⟩ := h; rfl
  · obtain ⟨t, zs, zs2, g, o, ps, rfl, RC, N, hQ⟩ := h
    refine ⟨_, (pss_cons (ps_setLc (i := 1) (own := [("_law_sign", 2)]) (g := gName 2) (tt := tYes) (by rfl) sc_law_kinds.nd rfl rfl (sw_true rfl rfl rfl (by decide +kernel)) (pi_list (pe_callB (call_sortedD rfl) (by rfl) B.sorted (by decide +kernel) (pa_cons (pe_ix ix_list (pv 0) pe_int (fun _ _ => rfl)) pa_nil))) (blkOk_by (own := [("_law_sign", 2)]) (N := N_law_kinds) (sc := defScope (top 39)) (by decide +kernel)) (fun _ _ _ _ _ => (pg_name (i := 2) sc_law_kinds.nd rfl (Or.inl rfl))) (fun _ _ _ _ _ => pts_nil) (fun _ _ _ _ _ => (pe_tup (pa_cons (pe_tup (pa_cons pe_str (pa_cons (pv 2) pa_nil))) (pa_cons (pe_dget (hu_of hr) (pe_ix (ixLK (K := K) rfl) (pv 0) pe_int (fun _ _ => rfl)) (pv 2) (fun _ _ => rfl)) pa_nil)))))
      (pss_cons (ps_set (i := 1) sc_law_kinds.nd rfl (Or.inl rfl) (pe_op op_cat (pv 1) (pe_lc (own := [("_law_sign", 2)]) (g := gName 2) (tt := tYes) (by rfl) sc_law_kinds.nd (pi_list (pe_callB (call_sortedD rfl) (by rfl) B.sorted (by decide +kernel) (pa_cons (pe_ix ix_list (pv 0) pe_int (fun _ _ => rfl)) pa_nil))) (blkOk_by (own := [("_law_sign", 2)]) (N := N_law_kinds) (sc := defScope (top 39)) (by decide +kernel)) (fun _ _ _ _ _ => (pg_name (i := 2) sc_law_kinds.nd rfl (Or.inl rfl))) (fun _ _ _ _ _ => pts_nil) (fun _ _ _ _ _ => (pe_tup (pa_cons (pe_tup (pa_cons pe_str (pa_cons (pv 2) pa_nil))) (pa_cons (pe_dget (hu_of hr) (pe_ix (ixLK (K := K) rfl) (pv 0) pe_int (fun _ _ => rfl)) (pv 2) (fun _ _ => rfl)) pa_nil)))))))
      (pss_one (ps_ret (pe_op op_cat (pv 1) (pe_lc (own := [("_law_pair", 3)]) (g := gName 3) (tt := tYes) (by rfl) sc_law_kinds.nd (pi_list (pe_callB (cr_sortedKT rfl hr.units) (by rfl) B.sorted (by decide +kernel) (pa_cons (pe_ix ix_list (pv 0) pe_int (fun _ _ => rfl)) pa_nil))) (blkOk_by (own := [("_law_pair", 3)]) (N := N_law_kinds) (sc := defScope (top 39)) (by decide +kernel)) (fun _ _ _ _ _ => (pg_name (i := 3) sc_law_kinds.nd rfl (Or.inl rfl))) (fun _ _ _ _ _ => pts_nil) (fun _ _ _ _ _ => (pe_tup (pa_cons (pe_tup (pa_cons pe_str (pa_cons (pe_ix (ixTK (K := K) rfl) (pv 3) pe_int (fun _ _ => rfl)) (pa_cons (pe_ix (ixTK (K := K) rfl) (pv 3) pe_int (fun _ _ => rfl)) pa_nil)))) (pa_cons (pe_dget (hu_of hr) (pe_ix (ixLK (K := K) rfl) (pv 0) pe_int (fun _ _ => rfl)) (pv 3) (fun _ _ => rfl)) pa_nil)))))))))), ?_⟩
    have two : 2 ≤ sizeLine := by decide
    have three : 3 ≤ sizeLine := by decide
    have big : 1000 < sizeLine := by decide
    obtain ⟨RA, RB, RS, ht, hA, hB, hS⟩ := id RC
    have l5 := N.le
    have l52 := N.pm.length_eq
    have l100 := N.sl
    have nd2 := N.pm.nodup_iff.mpr N.nd
    have tkD : ∀ {D : Addr} {Ha Hb : Hp}, (∀ b u, b ≠ D → Ha b = some u → Hb b = some u) → (∃ xs, Ha D = some (.lst xs)) → TK Ha Hb := fun up hD b xs h => up _ _ (fun z => by obtain ⟨xs, hD⟩ := hD; rw [z, hD] at h; cases h) h
    have sTK : ∀ {Ha Hb : Hp}, Same Ha Hb → TK Ha Hb := fun e b xs h => e _ _ h
    -- put
    refine ⟨_, rfl, t, _, _, .ref RA, rfl, rfl, SqL.of ht, rfl, RA, _, zs, rfl, .inl hA, dkF_keys zs g, by omega, fun ys q1 hys _ hq1 => ⟨q1, rfl, ⟨_, SqL.of upd_same⟩, fun D hD => ?_⟩⟩
    have e1 := same_new (o := .lst (ys.map V.str)) hq1
    have u1 : upd H q1 (.lst (ys.map V.str)) q1 = some (.lst (strsV ys)) := upd_same
    generalize upd H q1 (.lst (ys.map V.str)) = H1 at e1 u1 hD ⊢
    have lY := hys.length_eq
    refine lc_newL walk_list (strsV ys) rfl (by simp [strsV]; omega) (fun _ _ _ _ _ y => y) hD (fun H' e => SqL.of (e _ _ u1)) (fun _ _ => by kernel_rfl) (fun k v H' => KindAt H' zs zs2 g o ps v) (fun k v Ha Hb up hD n r => r.tk (tkD up hD)) (fun _ _ _ r => by obtain ⟨_, _, h, _⟩ := r; exact ⟨_, h⟩) (fun i y hy H2 e2 _ Q' q' => ?_) (fun H2 qs1 e2 u2 _ _ lq1 r2 => ?_)
    · obtain ⟨z, hz, rfl⟩ := List.mem_map.mp (List.mem_of_getElem? hy)
      have mz := hys.mem_iff.mp hz
      have e02 := e1.trans e2
      refine ⟨_, rfl, two, fun K1 hK1 => ?_⟩
      have f1 := same_new (o := .tup [.str "put", .str z]) hK1
      refine ⟨_, rfl, t, _, _, .ref RA, rfl, rfl, SqL.of (f1 _ _ (e02 _ _ ht)), rfl, _, rfl, RA, .int (g z), rfl, .inl ⟨_, .inr z, .inl (f1 _ _ (e02 _ _ hA)), rfl, (dkF_val N.nd g mz).symm⟩, two, fun T hT => q' T _ (Same.free f1 hT) (f1.trans (same_new hT)) ⟨K1, g z, upd_same, .inl ⟨z, mz, same_new hT _ _ upd_same, rfl⟩⟩⟩
    have E2 := e1.trans e2
    have len1 : qs1.length ≤ 5 := by rw [lq1]; simp [strsV]; omega
    have K1 : ∀ v ∈ qs1, KindAt H2 zs zs2 g o ps v := fun v hv => by
      obtain ⟨k, hk⟩ := List.mem_iff_getElem?.mp hv
      exact r2 k v hk
    clear hD e1 u1 hq1 hys e2 r2 lq1 lY
    -- out
    refine ⟨_, rfl, _, rfl, t, _, _, .ref RB, rfl, rfl, SqL.of (E2 _ _ ht), rfl, RB, _, zs2, rfl, .inl (E2 _ _ hB), dkF_keys zs2 o, by omega, fun ys q1 hys _ hq1 => ⟨q1, rfl, ⟨_, SqL.of upd_same⟩, fun D2 hD => ?_⟩⟩
    have e3 := same_new (o := .lst (ys.map V.str)) hq1
    have u3 : upd H2 q1 (.lst (ys.map V.str)) q1 = some (.lst (strsV ys)) := upd_same
    generalize upd H2 q1 (.lst (ys.map V.str)) = H3 at e3 u3 hD ⊢
    have lY := hys.length_eq
    refine lc_newL walk_list (strsV ys) rfl (by simp [strsV]; omega) (fun _ _ _ _ _ y => y) hD (fun H' e => SqL.of (e _ _ u3)) (fun _ _ => by kernel_rfl) (fun k v H' => KindAt H' zs zs2 g o ps v) (fun k v Ha Hb up hD n r => r.tk (tkD up hD)) (fun _ _ _ r => by obtain ⟨_, _, h, _⟩ := r; exact ⟨_, h⟩) (fun i y hy H4 e4 _ Q' q' => ?_) (fun H4 qs2 e4 u4 _ _ lq2 r4 => ?_)
    · obtain ⟨z, hz, rfl⟩ := List.mem_map.mp (List.mem_of_getElem? hy)
      have mz := hys.mem_iff.mp hz
      have e02 := (E2.trans e3).trans e4
      refine ⟨_, rfl, two, fun K1 hK1 => ?_⟩
      have f1 := same_new (o := .tup [.str "out", .str z]) hK1
      refine ⟨_, rfl, t, _, _, .ref RB, rfl, rfl, SqL.of (f1 _ _ (e02 _ _ ht)), rfl, _, rfl, RB, .int (o z), rfl, .inl ⟨_, .inr z, .inl (f1 _ _ (e02 _ _ hB)), rfl, (dkF_val nd2 o mz).symm⟩, two, fun T hT => q' T _ (Same.free f1 hT) (f1.trans (same_new hT)) ⟨K1, o z, upd_same, .inr (.inl ⟨z, mz, same_new hT _ _ upd_same, rfl⟩)⟩⟩
    have len2 : qs2.length ≤ 5 := by rw [lq2]; simp [strsV]; omega
    have e34 := e3.trans e4
    refine ⟨D, D2, _, _, rfl, rfl, e34 _ _ u2, u4, by rw [List.length_map, List.length_map]; omega, fun L hL => ?_⟩
    rw [← List.map_append]
    have e5 := same_new (o := .lst ((qs1 ++ qs2).map V.ref)) hL
    have u5 : upd H4 L (.lst ((qs1 ++ qs2).map V.ref)) L = some (.lst ((qs1 ++ qs2).map V.ref)) := upd_same
    have K2 : ∀ v ∈ qs1 ++ qs2, KindAt (upd H4 L (.lst ((qs1 ++ qs2).map V.ref))) zs zs2 g o ps v := fun v hv => by
      rcases List.mem_append.mp hv with hv | hv
      · exact (K1 v hv).tk (sTK (e34.trans e5))
      · obtain ⟨k, hk⟩ := List.mem_iff_getElem?.mp hv
        exact (r4 k v hk).tk (sTK e5)
    have E5 := (E2.trans e34).trans e5
    generalize upd H4 L (.lst ((qs1 ++ qs2).map V.ref)) = H5 at u5 K2 E5 ⊢
    clear K1 u2 u4 e5 hD e34 e3 u3 hq1 hys e4 r4 lq2 lY E2 hL
    have len12 : (qs1 ++ qs2).length ≤ 10 := by rw [List.length_append]; omega
    generalize qs1 ++ qs2 = qs3 at u5 K2 len12 ⊢
    -- swap
    refine ⟨_, rfl, _, rfl, t, _, _, .ref RS, rfl, rfl, SqL.of (E5 _ _ ht), rfl, RS, ps, rfl, .inl (E5 _ _ hS), by omega, fun q1 bs hq1 prB => ⟨q1, rfl, ⟨_, SqL.of upd_same⟩, fun D3 hD => ?_⟩⟩
    have lb : bs.length = ps.length := by rw [Paired.length prB, List.length_mergeSort]
    have e6 := same_new (o := .lst (bs.map V.ref)) hq1
    have u6 : upd H5 q1 (.lst (bs.map V.ref)) q1 = some (.lst (bs.map V.ref)) := upd_same
    have atB : ∀ {i : Nat} {b : Addr}, bs[i]? = some b → ∃ e ∈ ps, upd H5 q1 (.lst (bs.map V.ref)) b = some (.tup [.str e.1.1, .str e.1.2]) := fun hb => by
      obtain ⟨e, he, h⟩ := LiI.paired_get prB hb
      exact ⟨e, (List.mergeSort_perm ..).mem_iff.mp (List.mem_of_getElem? he), e6 _ _ h⟩
    generalize upd H5 q1 (.lst (bs.map V.ref)) = H6 at e6 u6 atB hD ⊢
    refine lc_newL walk_list (bs.map V.ref) rfl (by rw [List.length_map]; omega) (fun _ _ _ _ _ y => y) hD (fun H' e => SqL.of (e _ _ u6)) (fun _ _ => by kernel_rfl) (fun k v H' => KindAt H' zs zs2 g o ps v) (fun k v Ha Hb up hD n r => r.tk (tkD up hD)) (fun _ _ _ r => by obtain ⟨_, _, h, _⟩ := r; exact ⟨_, h⟩) (fun i y hy H7 e7 _ Q' q' => ?_) (fun H7 qs4 e7 u7 _ _ lq4 r7 => ?_)
    · rw [List.getElem?_map] at hy
      obtain ⟨b, hb, rfl⟩ := Option.map_eq_some_iff.mp hy
      obtain ⟨e, he, hbt⟩ := atB hb
      have e02 := (E5.trans e6).trans e7
      have hb7 := e7 _ _ hbt
      refine ⟨_, rfl, b, _, _, .str e.1.1, rfl, rfl, .inl (.inl hb7), rfl, _, rfl, b, _, _, .str e.1.2, rfl, rfl, .inl (.inl hb7), rfl, three, fun K1 hK1 => ?_⟩
      have f1 := same_new (o := .tup [.str "swap", .str e.1.1, .str e.1.2]) hK1
      refine ⟨_, rfl, t, _, _, .ref RS, rfl, rfl, SqL.of (f1 _ _ (e02 _ _ ht)), rfl, _, rfl, RS, .int e.2, rfl, .inr ⟨_, [.inr e.1.1, .inr e.1.2], b, .inl (f1 _ _ (e02 _ _ hS)), rfl, f1 _ _ hb7, (dtF_val N.sn he).symm⟩, two, fun T hT => q' T _ (Same.free f1 hT) (f1.trans (same_new hT)) ⟨K1, e.2, upd_same, .inr (.inr ⟨e, he, same_new hT _ _ upd_same, rfl⟩)⟩⟩
    have len4 : qs4.length ≤ 100 := by rw [lq4, List.length_map]; omega
    have e67 := e6.trans e7
    refine ⟨L, D3, _, _, rfl, rfl, e67 _ _ u5, u7, by rw [List.length_map, List.length_map]; omega, fun l hl => ?_⟩
    rw [← List.map_append]
    have e8 := same_new (o := .lst ((qs3 ++ qs4).map V.ref)) hl
    refine hQ l (qs3 ++ qs4) _ ((E5.trans e67).trans e8) upd_same fun v hv => ?_
    rcases List.mem_append.mp hv with hv | hv
    · exact (K2 v hv).tk (sTK (e67.trans e8))
    · obtain ⟨k, hk⟩ := List.mem_iff_getElem?.mp hv
      exact (r7 k v hk).tk (sTK e8)
end
end MN
/-! _law_is_below -/
namespace MN
open PySem PySem.Spec PyProof.Rows L2
theorem eqv_nil (ds : List PyData) : PyData.eqv (.list ds) (.list []) = ds.isEmpty := by
  cases ds <;> simp [PyData.eqv, PyData.eqvAll]
theorem shStrsL {ys : List Str} (sg : ∀ z ∈ ys, ∃ c ∈ ("abcde" : Str).cps.toList, z = ⟨#[c]⟩) : SeqAt.shaped (.list (ys.map PyData.str)) = true := shapedL fun d hd => by
  obtain ⟨z, hz, rfl⟩ := List.mem_map.mp hd
  have h := Sm.sign (sg z hz)
  exact ⟨h.cl, by have := h.dp; omega⟩
def dKey (e : SP2) : PyData := .tuple [.str e.1.1, .str e.1.2]
theorem shKeysL {qs : List SP2} (sg : ∀ e ∈ qs, (∃ c ∈ ("abcde" : Str).cps.toList, e.1.1 = ⟨#[c]⟩) ∧ ∃ c ∈ ("abcde" : Str).cps.toList, e.1.2 = ⟨#[c]⟩) : SeqAt.shaped (.list (qs.map dKey)) = true := shapedL fun d hd => by
  obtain ⟨e, he, rfl⟩ := List.mem_map.mp hd
  have h : Sm 1 4 (dKey e) := (Sm.tuple (n := 0) (w := 1) fun f hf => by
    rcases List.mem_cons.mp hf with rfl | hf
    · exact .sign (sg e he).1
    · rw [List.mem_singleton.mp hf]
      exact .sign (sg e he).2).mono (by omega) (by simp)
  exact ⟨h.cl, by have := h.dp; omega⟩
theorem dpKeys {K : PySem.W.Frag} {H : Hp} : ∀ {bs : List Addr} {qs : List SP2}, Paired (fun (b : Addr) (e : SP2) => H b = some (.tup [.str e.1.1, .str e.1.2])) bs qs → DpAll K H (bs.map V.ref) (qs.map dKey)
  | _, _, .nil => .nil
  | _, _, .cons h r => .cons (.tup (.inl (.inl h)) (.cons (.str _) (.cons (.str _) .nil))) (dpKeys r)
def tsV (f : Str → Bool) : V → Bool
  | .str z => f z
  | _ => false
theorem filter_tsV (f : Str → Bool) (ys : List Str) : ((strsV ys).filter (tsV f)).map (fun x => x) = strsV (ys.filter f) := by
  rw [List.map_id']
  unfold strsV
  rw [List.filter_map]
  rfl
section
variable {P : Program} {w : World} {K : PySem.W.Frag} {mg : Str → Option Value} {base : Heap}
def spBelow3 : Sp := fun vs H Q _ => ∃ t t' ys ys' c c' cps cps', vs = [.ref t, .ref t'] ∧ Rec H t ys ys (gC c) (oC c) cps ∧ AllP ys (sC c) cps ∧ PrN ys ys (gC c) (oC c) cps ∧ Rec H t' ys' ys' (gC c') (oC c') cps' ∧ AllP ys' (sC c') cps' ∧ PrN ys' ys' (gC c') (oC c') cps' ∧
  ∀ b H', Same H H' → (b = true ↔ Below ys c ys' c') → Q (.bl b) H'
abbrev N_law_is_below : List Str := ["_law_one", "_law_other", "_law_at", "_law_key"]
theorem sc_law_is_below : FnScope N_law_is_below ["_law_one", "_law_other"] (defScope (top 40)) := ⟨rfl, rfl, rfl, by decide +kernel, rfl, by decide +kernel, by decide +kernel⟩
theorem c_law_is_below (A : At K mg "_law_is_below" (top 40)) (B : Blt mg) : Cal P w K mg base 1 "_law_is_below" spBelow3 := by
  refine cal_of A sc_law_is_below (fun _ _ _ _ _ _ us hl => match us, hl with | [_, _], _ => rfl) (fun vs H Q E h => ?_) (fun _ cdv A outer s H vs Q E hr h => ?_)
  · obtain ⟨_, _, _, _, _, _, _, _, rfl, _⟩ := h; rfl
  · obtain ⟨t, t', ys, ys', c, c', cps, cps', rfl, RC, AP, N, RC', AP', N', hQ⟩ := h
    refine ⟨_, (pss_cons (ps_if (pt_cmpR (op_neD hr.units) (pe_callB (call_sortedD rfl) (by rfl) B.sorted (by decide +kernel) (pa_cons (pe_ix ix_list (pv 0) pe_int (fun _ _ => rfl)) pa_nil)) (pe_callB (call_sortedD rfl) (by rfl) B.sorted (by decide +kernel) (pa_cons (pe_ix ix_list (pv 1) pe_int (fun _ _ => rfl)) pa_nil)) (nomark _))
        (pss_one (ps_ret pe_bl))
        pss_nil)
      (pss_cons (ps_for PassesOwn.never rfl (pi_range1 (by rfl) B.range (pa_cons pe_int pa_nil)) (pg_name (i := 2) sc_law_is_below.nd rfl (Or.inr rfl))
        (pss_one (ps_if (pt_cmpR (op_neD hr.units) (pe_lock (pe_lc (own := [("_law_key", 3)]) (g := gName 3) (by rfl) sc_law_is_below.nd (pi_keys (pe_ix ix_list (pv 0) (pv 2) (fun _ _ => rfl))) (blkOk_by (own := [("_law_key", 3)]) (N := N_law_is_below) (sc := defScope (top 40)) (by decide +kernel)) (fun _ _ _ _ _ => (pg_name (i := 3) sc_law_is_below.nd rfl (Or.inl rfl)))
            (fun _ _ _ _ _ => pts_one (pt_cmpR op_gt (pe_dget (hu_of hr) (pe_ix (ixLK (K := K) rfl) (pv 0) (pv 2) (fun _ _ => rfl)) (pv 3) (fun _ _ => rfl)) (pe_dget (hu_of hr) (pe_ix (ixLK (K := K) rfl) (pv 1) (pv 2) (fun _ _ => rfl)) (pv 3) (fun _ _ => rfl)) (nomark _))) (fun _ _ _ _ _ => (pv 3)))) (pe_lst pa_nil) (nomark _))
          (pss_one (ps_ret pe_bl))
          pss_nil)))
      (pss_one (ps_ret pe_bl)))), ?_⟩
    have zero : 0 ≤ sizeLine := by decide
    have big : 1000 < sizeLine := by decide
    obtain ⟨RA, RB, RS, ht, hA, hB, hS⟩ := id RC
    obtain ⟨RA', RB', RS', ht', hA', hB', hS'⟩ := id RC'
    have l5 := N.le
    have l5' := N'.le
    have l100 := N.sl
    refine ⟨_, rfl, t, _, _, .ref RA, rfl, rfl, SqL.of ht, rfl, RA, _, ys, rfl, .inl hA, dkF_keys ys _, by omega, fun zs q1 hzs hso hq1 => ?_⟩
    have e1 := same_new (o := .lst (zs.map V.str)) hq1
    have u1 : upd H q1 (.lst (zs.map V.str)) q1 = some (.lst (zs.map V.str)) := upd_same
    generalize upd H q1 (.lst (zs.map V.str)) = H1 at e1 u1 ⊢
    refine ⟨_, rfl, t', _, _, .ref RA', rfl, rfl, SqL.of (e1 _ _ ht'), rfl, RA', _, ys', rfl, .inl (e1 _ _ hA'), dkF_keys ys' _, by omega, fun zs' q2 hzs' hso' hq2 => ?_⟩
    have e2 := same_new (o := .lst (zs'.map V.str)) hq2
    have u2 : upd H1 q2 (.lst (zs'.map V.str)) q2 = some (.lst (zs'.map V.str)) := upd_same
    have u1' := e2 _ _ u1
    have e12 := e1.trans e2
    generalize upd H1 q2 (.lst (zs'.map V.str)) = H2 at e12 u1' u2 ⊢
    have sgZ : ∀ z ∈ zs, ∃ c ∈ ("abcde" : Str).cps.toList, z = ⟨#[c]⟩ := fun z hz => N.sg z (hzs.mem_iff.mp hz)
    have sgZ' : ∀ z ∈ zs', ∃ c ∈ ("abcde" : Str).cps.toList, z = ⟨#[c]⟩ := fun z hz => N'.sg z (hzs'.mem_iff.mp hz)
    refine ⟨.list (zs.map .str), .list (zs'.map .str), .lst (SqL.of u1') (dp_strs zs), .lst (SqL.of u2) (dp_strs zs'), shStrsL sgZ, shStrsL sgZ', ?_⟩
    rw [show PyData.eqv (.list (zs.map .str)) (.list (zs'.map .str)) = decide (zs = zs') from by rw [PyData.eqv]; exact eqv_strs zs zs']
    clear e1 e2 hq1 hq2 u1 u2 u1'
    by_cases zz : ¬ zs = zs'
    · rw [decide_eq_false zz]
      refine ⟨_, rfl, iteT (hQ false _ e12 ⟨(fun q => nomatch q), fun q => absurd ?_ zz⟩)⟩
      exact pairwise_one (R := fun a b : Str => sL a < sL b) (fun a b h q => List.lt_asymm h q) (sorted_sL sgZ (hzs.nodup_iff.mpr N.nd) hso) (sorted_sL sgZ' (hzs'.nodup_iff.mpr N'.nd) hso') fun z => by rw [hzs.mem_iff, hzs'.mem_iff]; exact q.1 z
    have zz := Classical.not_not.mp zz
    subst zz
    rw [show decide (zs = zs) = true from decide_eq_true rfl]
    refine ⟨_, rfl, iteF ?_⟩
    have pyy : ys.Perm ys' := hzs.symm.trans hzs'
    have nd' := N'.nd
    -- the answer no
    have no : ∀ {f f' : Str → Int} {H' : Hp}, Same H H' → (ys.filter fun z => decide (f' z < f z)) ≠ [] → (Below ys c ys' c' → ∀ z ∈ ys, f z ≤ f' z) → Q (.bl false) H' := fun {f f' H'} e h k => hQ false H' e ⟨(fun q => nomatch q), fun q => by
      refine absurd (List.filter_eq_nil_iff.mpr fun z hz => ?_) h
      have := k q z hz
      simp
      omega⟩
    have yes : ∀ {f f' : Str → Int}, (ys.filter fun z => decide (f' z < f z)) = [] → ∀ z ∈ ys, f z ≤ f' z := fun {f f'} h z hz => by
      have := List.filter_eq_nil_iff.mp h z hz
      simp at this
      omega
    refine ⟨_, rfl, by decide, by decide, for_it (walk_range (lo := 0)) (fun i σ H' => (∃ o2, σ = [some (.ref t), some (.ref t'), o2, none]) ∧ Same H H' ∧ (0 < i → ∀ z ∈ ys, gC c z ≤ gC c' z) ∧ (1 < i → ∀ z ∈ ys, oC c z ≤ oC c' z) ∧ (2 < i → ∀ e ∈ cps, e.2 ≤ sC c' e.1.1 e.1.2)) ⟨⟨_, rfl⟩, e12, fun q => absurd q (by decide), fun q => absurd q (by decide), fun q => absurd q (by decide)⟩ (fun _ _ _ _ _ => trivial) (fun i v σ Ha Hb hi e hv => ?_) (fun σ H3 e => ?_)⟩
    · obtain ⟨rfl, hv⟩ := hv
      obtain ⟨⟨o2, rfl⟩, ea, k0, k1, k2⟩ := e
      -- a dict with signs as keys
      have stepK : ∀ {A D : Addr} {f : Str → Int} {od : Obj} (p : Str → Bool) {Qd : Hp → Prop} {tt : TT} {σ : L2.St}, upd Hb A (.frz od (.dK (dkF ys f))) D = none → (∀ z ∈ ys, ∀ H2, Same (upd Hb A (.frz od (.dK (dkF ys f)))) H2 → ∀ Q2 : Bool → Hp → Prop, Q2 (p z) H2 → tt ((wipe σ [3]).set 3 (some (.str z))) H2 Q2) → (∀ x, (wipe ((wipe σ [3]).set 3 (some x)) [3]) = wipe σ [3]) → (∀ x, ((wipe σ [3]).set 3 (some x))[3]? = some (some x)) →
          (∀ H', Same (upd Hb A (.frz od (.dK (dkF ys f)))) H' → H' D = some (.lst (strsV (ys.filter p))) → Qd H') → LcGoal (Itk A od (dkF ys f)) (gName 3) tt (tVar 3) [3] σ (upd Hb A (.frz od (.dK (dkF ys f)))) D Qd := by
        intro A D f od p Qd tt σ hD htt hw hg hd
        refine lc_ext walk_keys (strsV ys) (by simp [strsV, dkF]) (by simp only [dkF, List.length_map]; omega) (fun i H x H' hi y => ?_) hD (tsV p) (fun x => x) (fun H' e => e _ _ upd_same) (fun x _ => hw x) (fun v hv H2 e2 Q2 q2 => ?_) (fun v hv _ H6 e6 Q q => ⟨_, hg _, q _ (Same.refl _)⟩) (fun H6 e6 h6 => hd H6 e6 (by rw [h6, filter_tsV]))
        · obtain ⟨rfl, k, v, hk, rfl⟩ := y
          unfold dkF at hk
          rw [List.getElem?_map] at hk
          obtain ⟨z, hz, ek⟩ := Option.map_eq_some_iff.mp hk
          cases ek
          exact ⟨rfl, by show (ys.map V.str)[i]? = _; rw [List.getElem?_map, hz]; rfl⟩
        · obtain ⟨z, hz, rfl⟩ := List.mem_map.mp hv
          exact htt z hz H2 e2 Q2 (q2 _ (Same.refl _))
      have sgF : ∀ (p : Str → Bool), ∀ z ∈ ys.filter p, ∃ c ∈ ("abcde" : Str).cps.toList, z = ⟨#[c]⟩ := fun p z hz => N.sg z (List.mem_filter.mp hz).1
      have tl := ea _ _ ht
      have tl' := ea _ _ ht'
      match i, hi, hv with
      | 0, _, hv =>
        have hv : v = .int 0 := hv
        subst hv
        have hX := ea _ _ hA
        have hX' := ea _ _ hA'
        have nt : t ≠ RA := fun z => by rw [z, hX] at tl; cases tl
        have nt' : t' ≠ RA := fun z => by rw [z, hX] at tl'; cases tl'
        refine ⟨RA, _, hX, trivial, fun od => ⟨_, rfl, _, rfl, t, _, _, .ref RA, rfl, rfl, SqL.of (by rw [upd_ne nt]; exact tl), atI_nat (j := 0) rfl, RA, od, rfl, .inl ⟨_, upd_same, fun D hD => ?_⟩⟩⟩
        have nD : D ≠ RA := fun z => by rw [z, upd_same] at hD; cases hD
        have rd1 : Rd (upd Hb RA (.frz od (.dK (dkF ys (gC c))))) RA (.dK (dkF ys (gC c))) := .inr ⟨od, upd_same⟩
        have rd2 : Rd (upd Hb RA (.frz od (.dK (dkF ys (gC c))))) RA' (.dK (dkF ys' (gC c'))) := rd_lock hX' hX
        refine stepK (fun z => decide (gC c' z < gC c z)) hD (fun z hz H2 e2 Q2 q2 => ?_) (fun _ => by kernel_rfl) (fun _ => rfl) (fun H6 e6 h6 => ⟨e6 _ _ upd_same, ?_⟩)
        · exact ⟨_, rfl, _, rfl, t, _, _, .ref RA, rfl, rfl, SqL.of (e2 _ _ (by rw [upd_ne nt]; exact tl)), atI_nat (j := 0) rfl, _, rfl, RA, .int (gC c z), rfl, .inl ⟨_, .inr z, rdSame rd1 e2, rfl, (dkF_val N.nd (gC c) hz).symm⟩, _, rfl, _, rfl, t', _, _, .ref RA', rfl, rfl, SqL.of (e2 _ _ (by rw [upd_ne nt']; exact tl')), atI_nat (j := 0) rfl, _, rfl, RA', .int (gC c' z), rfl, .inl ⟨_, .inr z, rdSame rd2 e2, rfl, (dkF_val N'.nd (gC c') (pyy.mem_iff.mp hz)).symm⟩, _, _, rfl, rfl, _, rfl, q2⟩
        have sU := sameUn e6 hX
        have h7 : upd H6 RA (.dK (dkF ys (gC c))) D = some (.lst (strsV (ys.filter fun z => decide (gC c' z < gC c z)))) := by rw [upd_ne nD, h6]
        generalize upd H6 RA (.dK (dkF ys (gC c))) = H7 at sU h7 ⊢
        refine ⟨zero, fun l hl => ⟨.list ((ys.filter fun z => decide (gC c' z < gC c z)).map .str), .list [], .lst (SqL.of (same_new hl _ _ h7)) (dp_strs _), .lst (SqL.of upd_same) .nil, shStrsL (sgF _), rfl, ?_⟩⟩
        rw [eqv_nil]
        have e7 := (ea.trans sU).trans (same_new (o := .lst []) hl)
        cases hf : ys.filter fun z => decide (gC c' z < gC c z) with
        | nil => exact ⟨_, rfl, iteF ⟨⟨_, rfl⟩, e7, fun _ => yes hf, fun q => absurd q (by decide), fun q => absurd q (by decide)⟩⟩
        | cons a l => exact ⟨_, rfl, iteT (no e7 (f := gC c) (f' := gC c') (by rw [hf]; exact fun q => nomatch q) fun q z hz => (q.2.1 z hz).1)⟩
      | 1, _, hv =>
        have hv : v = .int 1 := hv
        subst hv
        have hX := ea _ _ hB
        have hX' := ea _ _ hB'
        have nt : t ≠ RB := fun z => by rw [z, hX] at tl; cases tl
        have nt' : t' ≠ RB := fun z => by rw [z, hX] at tl'; cases tl'
        refine ⟨RB, _, hX, trivial, fun od => ⟨_, rfl, _, rfl, t, _, _, .ref RB, rfl, rfl, SqL.of (by rw [upd_ne nt]; exact tl), atI_nat (j := 1) rfl, RB, od, rfl, .inl ⟨_, upd_same, fun D hD => ?_⟩⟩⟩
        have nD : D ≠ RB := fun z => by rw [z, upd_same] at hD; cases hD
        have rd1 : Rd (upd Hb RB (.frz od (.dK (dkF ys (oC c))))) RB (.dK (dkF ys (oC c))) := .inr ⟨od, upd_same⟩
        have rd2 : Rd (upd Hb RB (.frz od (.dK (dkF ys (oC c))))) RB' (.dK (dkF ys' (oC c'))) := rd_lock hX' hX
        refine stepK (fun z => decide (oC c' z < oC c z)) hD (fun z hz H2 e2 Q2 q2 => ?_) (fun _ => by kernel_rfl) (fun _ => rfl) (fun H6 e6 h6 => ⟨e6 _ _ upd_same, ?_⟩)
        · exact ⟨_, rfl, _, rfl, t, _, _, .ref RB, rfl, rfl, SqL.of (e2 _ _ (by rw [upd_ne nt]; exact tl)), atI_nat (j := 1) rfl, _, rfl, RB, .int (oC c z), rfl, .inl ⟨_, .inr z, rdSame rd1 e2, rfl, (dkF_val N.nd (oC c) hz).symm⟩, _, rfl, _, rfl, t', _, _, .ref RB', rfl, rfl, SqL.of (e2 _ _ (by rw [upd_ne nt']; exact tl')), atI_nat (j := 1) rfl, _, rfl, RB', .int (oC c' z), rfl, .inl ⟨_, .inr z, rdSame rd2 e2, rfl, (dkF_val N'.nd (oC c') (pyy.mem_iff.mp hz)).symm⟩, _, _, rfl, rfl, _, rfl, q2⟩
        have sU := sameUn e6 hX
        have h7 : upd H6 RB (.dK (dkF ys (oC c))) D = some (.lst (strsV (ys.filter fun z => decide (oC c' z < oC c z)))) := by rw [upd_ne nD, h6]
        generalize upd H6 RB (.dK (dkF ys (oC c))) = H7 at sU h7 ⊢
        refine ⟨zero, fun l hl => ⟨.list ((ys.filter fun z => decide (oC c' z < oC c z)).map .str), .list [], .lst (SqL.of (same_new hl _ _ h7)) (dp_strs _), .lst (SqL.of upd_same) .nil, shStrsL (sgF _), rfl, ?_⟩⟩
        rw [eqv_nil]
        have e7 := (ea.trans sU).trans (same_new (o := .lst []) hl)
        cases hf : ys.filter fun z => decide (oC c' z < oC c z) with
        | nil => exact ⟨_, rfl, iteF ⟨⟨_, rfl⟩, e7, fun _ => k0 (by decide), fun _ => yes hf, fun q => absurd q (by decide)⟩⟩
        | cons a l => exact ⟨_, rfl, iteT (no e7 (f := oC c) (f' := oC c') (by rw [hf]; exact fun q => nomatch q) fun q z hz => (q.2.1 z hz).2)⟩
      | 2, _, hv =>
        have hv : v = .int 2 := hv
        subst hv
        have hX := ea _ _ hS
        have hX' := ea _ _ hS'
        have nt : t ≠ RS := fun z => by rw [z, hX] at tl; cases tl
        have nt' : t' ≠ RS := fun z => by rw [z, hX] at tl'; cases tl'
        refine ⟨RS, _, hX, trivial, fun od => ⟨_, rfl, _, rfl, t, _, _, .ref RS, rfl, rfl, SqL.of (by rw [upd_ne nt]; exact tl), atI_nat (j := 2) rfl, RS, od, rfl, .inr ⟨_, upd_same, fun D hD => ?_⟩⟩⟩
        have nD : D ≠ RS := fun z => by rw [z, upd_same] at hD; cases hD
        have rd1 : Rd (upd Hb RS (.frz od (.dT (dtF cps)))) RS (.dT (dtF cps)) := .inr ⟨od, upd_same⟩
        have rd2 : Rd (upd Hb RS (.frz od (.dT (dtF cps)))) RS' (.dT (dtF cps')) := rd_lockT hX' hX
        refine lc_it walk_keysT (fun i H' => Same (upd Hb RS (.frz od (.dT (dtF cps)))) H' ∧ ∃ bs : List Addr, H' D = some (.lst (bs.map V.ref)) ∧ Paired (fun (b : Addr) (e : SP2) => H' b = some (.tup [.str e.1.1, .str e.1.2])) bs ((cps.take i).filter fun e => decide (sC c' e.1.1 e.1.2 < e.2))) ⟨same_new hD, [], upd_same, .nil⟩ (fun i H' _ e => e.1 _ _ upd_same) (fun i y Ha Hc hi e hy => ?_) (fun H6 e => ⟨e.1 _ _ upd_same, ?_⟩)
        · obtain ⟨rfl, k, v, b, hk, rfl, hb⟩ := hy
          obtain ⟨e2, bs, hDa, pr⟩ := e
          unfold dtF at hk
          rw [List.getElem?_map] at hk
          obtain ⟨⟨⟨a, b'⟩, n⟩, hpi, ek⟩ := Option.map_eq_some_iff.mp hk
          cases ek
          have hpm := List.mem_of_getElem? hpi
          obtain ⟨ma, mb, nab, hn⟩ := (AP.iff _).mp hpm
          have mem2 : ((a, b'), sC c' a b') ∈ cps' := (AP'.iff _).mpr ⟨pyy.mem_iff.mp ma, pyy.mem_iff.mp mb, nab, rfl⟩
          have hb' : Hc b = some (.tup [.str a, .str b']) := hb
          have lbs : bs.length ≤ 100 := by
            rw [Paired.length pr]
            refine Nat.le_trans (List.length_filter_le ..) ?_
            rw [List.length_take]; omega
          refine ⟨rfl, _, rfl, _, rfl, t, _, _, .ref RS, rfl, rfl, SqL.of (e2 _ _ (by rw [upd_ne nt]; exact tl)), atI_nat (j := 2) rfl, _, rfl, RS, .int n, rfl, .inr ⟨_, [.inr a, .inr b'], b, rdSame rd1 e2, rfl, hb', (dtF_val AP.nd hpm).symm⟩, _, rfl, _, rfl, t', _, _, .ref RS', rfl, rfl, SqL.of (e2 _ _ (by rw [upd_ne nt']; exact tl')), atI_nat (j := 2) rfl, _, rfl, RS', .int (sC c' a b'), rfl, .inr ⟨_, [.inr a, .inr b'], b, rdSame rd2 e2, rfl, hb', (dtF_val AP'.nd mem2).symm⟩, _, _, rfl, rfl, _, rfl, ?_⟩
          have tk1 : ((cps.take (i + 1)).filter fun e => decide (sC c' e.1.1 e.1.2 < e.2)) = ((cps.take i).filter fun e => decide (sC c' e.1.1 e.1.2 < e.2)) ++ (if sC c' a b' < n then [((a, b'), n)] else []) := by
            rw [List.take_add_one, hpi, List.filter_append]
            congr 1
            simp only [Option.toList_some, List.filter_cons, List.filter_nil, decide_eq_true_eq]
          rw [tk1]
          by_cases lt : sC c' a b' < n
          · rw [decide_eq_true lt, if_pos lt]
            refine iteT ⟨_, rfl, _, hDa, (by rw [List.length_map]; omega), fun c u z => by rw [upd_ne (ne_of_none z hD)]; exact e2 _ _ z, bs ++ [b], by rw [upd_same, List.map_append]; rfl, ?_⟩
            have nbD : ∀ {b : Addr} {xs : List V}, Hc b = some (.tup xs) → b ≠ D := fun h z => by rw [z, hDa] at h; cases h
            refine paired_app (L2.Paired.mapP pr fun b e h => by rw [upd_ne (nbD h)]; exact h) (.cons (by rw [upd_ne (nbD hb')]; exact hb') .nil)
          · rw [decide_eq_false lt, if_neg lt, List.append_nil]
            exact iteF ⟨e2, bs, hDa, pr⟩
        obtain ⟨e6, bs, hD6, pr⟩ := e
        have lcp : (dtF cps).length = cps.length := by simp [dtF]
        rw [lcp, List.take_length] at pr
        have sU := sameUn e6 hX
        have h7 : upd H6 RS (.dT (dtF cps)) D = some (.lst (bs.map V.ref)) := by rw [upd_ne nD]; exact hD6
        have pr7 : Paired (fun (b : Addr) (e : SP2) => upd H6 RS (.dT (dtF cps)) b = some (.tup [.str e.1.1, .str e.1.2])) bs (cps.filter fun e => decide (sC c' e.1.1 e.1.2 < e.2)) := L2.Paired.mapP pr fun b e h => by rw [upd_ne (fun z => by rw [z, e6 _ _ upd_same] at h; cases h)]; exact h
        generalize upd H6 RS (.dT (dtF cps)) = H7 at sU h7 pr7 ⊢
        refine ⟨zero, fun l hl => ⟨.list ((cps.filter fun e => decide (sC c' e.1.1 e.1.2 < e.2)).map dKey), .list [], .lst (SqL.of (same_new hl _ _ h7)) (dpKeys (L2.Paired.mapP pr7 fun _ _ h => same_new hl _ _ h)), .lst (SqL.of upd_same) .nil, shKeysL fun e he => ⟨N.sg _ (N.sp e (List.mem_filter.mp he).1).1, N.sg _ (N.sp e (List.mem_filter.mp he).1).2.1⟩, rfl, ?_⟩⟩
        rw [eqv_nil]
        have e7 := (ea.trans sU).trans (same_new (o := .lst []) hl)
        cases hf : cps.filter fun e => decide (sC c' e.1.1 e.1.2 < e.2) with
        | nil =>
          refine ⟨_, rfl, iteF ⟨⟨_, rfl⟩, e7, fun _ => k0 (by decide), fun _ => k1 (by decide), fun _ e he => ?_⟩⟩
          have := List.filter_eq_nil_iff.mp hf e he
          simp at this
          omega
        | cons a l =>
          refine ⟨_, rfl, iteT (hQ false _ e7 ⟨(fun q => nomatch q), fun q => ?_⟩)⟩
          have ma : a ∈ cps.filter fun e => decide (sC c' e.1.1 e.1.2 < e.2) := by rw [hf]; exact List.mem_cons_self
          obtain ⟨m1, m2⟩ := List.mem_filter.mp ma
          obtain ⟨a1, a2, a3, a4⟩ := (AP.iff a).mp m1
          have := q.2.2 _ a1 _ a2 a3
          have lt := of_decide_eq_true m2
          omega
      | i + 3, hi, _ => exact absurd hi (by show ¬ i + 3 < 3; omega)
    · obtain ⟨⟨o2, rfl⟩, ea, k0, k1, k2⟩ := e
      refine hQ true _ ea ⟨fun _ => ⟨fun z => pyy.mem_iff, fun z hz => ⟨k0 (by decide) z hz, k1 (by decide) z hz⟩, fun a ha b hb nab => ?_⟩, fun _ => rfl⟩
      exact k2 (by decide) ((a, b), sC c a b) ((AP.iff _).mpr ⟨ha, hb, nab, rfl⟩)
end
end MN
/-! plain law of prices so many times -/
namespace MN
open PySem PySem.Spec PyProof.Rows L2
theorem mul_min {m a b : Int} (h : 0 ≤ m) : m * min a b = min (m * a) (m * b) := by
  rcases Int.le_total a b with k | k
  · have := Int.mul_le_mul_of_nonneg_left k h
    rw [Int.min_eq_left k, Int.min_eq_left this]
  · have := Int.mul_le_mul_of_nonneg_left k h
    rw [Int.min_eq_right k, Int.min_eq_right this]
theorem Dc_times {c : Nd → Nd → Int} {m : Int} (h : 0 ≤ m) : ∀ u v : List Nat, Dc (fun x y => m * c x y) u v = m * Dc c u v
  | [], [] => by simp only [Dc, Int.mul_zero]
  | [], y :: v => by simp only [Dc]; rw [Dc_times h [] v, Int.mul_add]
  | x :: u, [] => by simp only [Dc]; rw [Dc_times h u [], Int.mul_add]
  | x :: u, y :: v => by
    simp only [Dc]
    rw [Dc_times h u v, Dc_times h u (y :: v), Dc_times h (x :: u) v]
    rw [← Int.mul_add, ← Int.mul_add, ← Int.mul_add, mul_min h, mul_min h]
theorem Clo.times {L : List Nat} {r r' : Nd → Nd → Option Int} {c : Nd → Nd → Int} {m : Int} (h : 1 ≤ m) (C : Clo L r c) (hr : ∀ x y, r' x y = (r x y).map fun p => m * p) : Clo L r' fun x y => m * c x y := by
  refine ⟨fun x => by simp only [C.z, Int.mul_zero], fun x y hx hy n => ?_, fun x y z hx hy hz => ?_, fun x y p hx hy e => ?_, fun x y hx hy n => ?_⟩
  · have h1 := C.pos x y hx hy n
    have := Int.mul_le_mul h h1 (by omega) (by omega)
    simpa using this
  · have := Int.mul_le_mul_of_nonneg_left (C.tri x y z hx hy hz) (show 0 ≤ m by omega)
    rw [Int.mul_add] at this
    exact this
  · rw [hr] at e
    obtain ⟨q, hq, rfl⟩ := Option.map_eq_some_iff.mp e
    exact Int.mul_le_mul_of_nonneg_left (C.le x y q hx hy hq) (by omega)
  · obtain ⟨z, p, hz, nz, e, e2⟩ := C.last x y hx hy n
    refine ⟨z, m * p, hz, nz, by rw [hr, e]; rfl, ?_⟩
    simp only [e2, Int.mul_add]
end MN
/-! _law_twice_right -/
namespace MN
open PySem PySem.Spec PyProof.Rows L2
theorem findP_time {m : Int} : ∀ (ps : List SP2) (a b : Str), findP (timeP m ps) a b = (findP ps a b).map fun n => m * n
  | [], a, b => rfl
  | ((x, y), n) :: ps, a, b => by
    have ih := findP_time (m := m) ps a b
    unfold timeP at ih ⊢
    rw [List.map_cons]
    unfold findP at ih ⊢
    rw [List.find?_cons, List.find?_cons]
    cases q : decide ((x, y) = (a, b)) with
    | true => simp only [Option.map_some, Int.mul_comm]
    | false => exact ih
theorem rOf_time {L : List Nat} {g o : Str → Int} {ps : List SP2} {m : Int} (x y : Nd) : rOf L (fun z => g z * m) (fun z => o z * m) (timeP m ps) x y = (rOf L g o ps x y).map fun n => m * n := by
  cases x with
  | none =>
    cases y with
    | none => rfl
    | some b =>
      simp only [rOf]
      split
      · simp [Int.mul_comm]
      · rfl
  | some a =>
    cases y with
    | none =>
      simp only [rOf]
      split
      · simp [Int.mul_comm]
      · rfl
    | some b => exact findP_time ps _ _
theorem CloR.time {zs : List Str} {g o : Str → Int} {ps : List SP2} {c : Nd → Nd → Int} {m : Int} (h : 1 ≤ m) (C : CloR zs g o ps c) : CloR zs (fun z => g z * m) (fun z => o z * m) (timeP m ps) fun x y => m * c x y :=
  Clo.times h C fun x y => rOf_time x y
theorem AllP.time {ys : List Str} {c : Nd → Nd → Int} {cps : List SP2} {m : Int} (A : AllP ys (sC c) cps) : AllP ys (sC fun x y => m * c x y) (timeP m cps) := by
  refine ⟨by rw [timeP_keys]; exact A.nd, fun e => ?_⟩
  unfold timeP
  rw [List.mem_map]
  constructor
  · rintro ⟨p, hp, rfl⟩
    obtain ⟨a, b, c, d⟩ := (A.iff p).mp hp
    exact ⟨a, b, c, by show p.2 * m = m * _; rw [d, Int.mul_comm]⟩
  · rintro ⟨a, b, n, d⟩
    refine ⟨(e.1, sC c e.1.1 e.1.2), (A.iff _).mpr ⟨a, b, n, rfl⟩, Prod.ext rfl ?_⟩
    show sC c e.1.1 e.1.2 * m = e.2
    rw [d, Int.mul_comm]
theorem maxK {X : Cx} {K : PySem.W.Frag} (hK : X.K = K) (hc : X.calm = true) : CallR X (.builtin "max") (rMax K) := hK ▸ cr_max hc
def tLet2 (i : Nat) : TE := fun σ H Q => ∃ gr m0 m1 m2, σ[i]? = some (some (.ref gr)) ∧ H gr = some (.lst [.int m0, .int m1, .int m2]) ∧ Q (.bl (decide (m0 < 5) && (decide (m1 < 5) && decide (m2 < 10)))) H
theorem imp_let2 {K : PySem.W.Frag} (i : Nat) (σ : L2.St) (H : Hp) (Q : VK) (h : tLet2 i σ H Q) : tAndV (tOp (rI0 fun i j => .bl (decide (i < j))) (tOp (rIxL K) (tVar i) (tC (.int 0))) (tC (.int 5))) (tAndV (tOp (rI0 fun i j => .bl (decide (i < j))) (tOp (rIxL K) (tVar i) (tC (.int 1))) (tC (.int 5))) (tOp (rI0 fun i j => .bl (decide (i < j))) (tOp (rIxL K) (tVar i) (tC (.int 2))) (tC (.int 10)))) σ H Q := by
  obtain ⟨gr, m0, m1, m2, hi, hg, q⟩ := h
  refine ⟨_, hi, gr, _, _, .int m0, rfl, rfl, SqL.of hg, rfl, _, _, rfl, rfl, _, rfl, ?_⟩
  by_cases h0 : m0 < 5
  · refine iteDT h0 ⟨_, hi, gr, _, _, .int m1, rfl, rfl, SqL.of hg, rfl, _, _, rfl, rfl, _, rfl, ?_⟩
    by_cases h1 : m1 < 5
    · refine iteDT h1 ⟨_, hi, gr, _, _, .int m2, rfl, rfl, SqL.of hg, rfl, _, _, rfl, rfl, ?_⟩
      rw [decide_eq_true h0, decide_eq_true h1] at q
      exact q
    · refine iteDF h1 ?_
      rw [decide_eq_true h0, decide_eq_false h1] at q
      exact q
  · refine iteDF h0 ?_
    rw [decide_eq_false h0] at q
    exact q
theorem MaxOf.lt {m : Int} {l : List Int} (h : MaxOf m l) {b d : Int} (hb : 0 < b) (hd : ∀ n : Int, n < b ↔ n * 2 ≤ d) : decide (m < b) = l.all fun n => decide (n * 2 ≤ d) := by
  by_cases q : m < b
  · rw [decide_eq_true q]
    exact (List.all_eq_true.mpr fun n hn => decide_eq_true ((hd n).mp (Int.lt_of_le_of_lt (h.2 n (List.mem_cons_of_mem _ hn)) q))).symm
  · rw [decide_eq_false q]
    refine (List.all_eq_false.mpr ⟨m, ?_, by simpa using fun z => q ((hd m).mpr z)⟩).symm
    rcases List.mem_cons.mp h.1 with e | e
    · omega
    · exact e
theorem let_fits {zs zs2 : List Str} {g o : Str → Int} {ps : List SP2} {m0 m1 m2 : Int} (h0 : MaxOf m0 (zs.map g)) (h1 : MaxOf m1 (zs2.map o)) (h2 : MaxOf m2 (ps.map Prod.snd)) (pz : zs2.Perm zs) : (decide (m0 < 5) && (decide (m1 < 5) && decide (m2 < 10))) = fitsP zs zs (fun z => g z * 2) (fun z => o z * 2) (timeP 2 ps) := by
  rw [h0.lt (b := 5) (d := 9) (by decide) (fun n => by omega), h1.lt (b := 5) (d := 9) (by decide) (fun n => by omega), h2.lt (b := 10) (d := 18) (by decide) (fun n => by omega)]
  rw [← fitsP_perm (fun z => g z * 2) (fun z => o z * 2) (List.Perm.refl zs) pz (List.Perm.refl (timeP 2 ps))]
  unfold fitsP timeP
  rw [List.all_append, ← Bool.and_assoc, List.all_map, List.all_map, List.all_map, List.all_map, List.all_map, List.all_map]
  rfl
abbrev scTw : Scope := { kind := .function, names := [(".0", .local), ("_law_table", .cell), ("dict", .globalImplicit)], isGenerator := false, isCoroutine := false }
section
variable {P : Program} {w : World} {K : PySem.W.Frag} {mg : Str → Option Value} {base : Heap} {Cp Cc IO : Addr}
def spTwice (Cp : Addr) : Sp := fun vs H Q _ => ∃ x t d zs zs2 g o ps ys c cps, vs = [.ref x, .ref t, .ref d] ∧ PrS Cp H x zs g o ps ∧ Rec H t zs zs2 g o ps ∧ PrN zs zs2 g o ps ∧ CloR zs g o ps c ∧ ys.Perm zs ∧ Rec H d ys ys (gC c) (oC c) cps ∧ AllP ys (sC c) cps ∧ PrN ys ys (gC c) (oC c) cps ∧ ∀ H', Same H H' → Q (.bl true) H'
abbrev N_law_twice_right : List Str := ["_law_prices", "_law_tables_here", "_law_closed_here", "_law_doubled", "_law_key", "_law_table", "_law_greatest", "_law_is_let"]
theorem sc_law_twice_right : FnScope N_law_twice_right ["_law_prices", "_law_tables_here", "_law_closed_here"] (defScope (top 41)) := ⟨rfl, rfl, rfl, by decide +kernel, rfl, by decide +kernel, by decide +kernel⟩
theorem c_law_twice_right (A : At K mg "_law_twice_right" (top 41)) (B : Blt mg) (PC : Pr3 K mg Cp Cc) (ER : ErrC K mg IO) (G_GREATEST : GlC mg "GREATEST" (.int big)) (c_are_prices3 : Cal P w K mg base 3 "are_prices" spAreP3) (c_are_prices2 : Cal P w K mg base 3 "are_prices" spAreP2) (c_require_number : Cal P w K mg base 2 "require_number" spReqNumber)
    (c_closed_of : Cal P w K mg base 3 "closed_of" (spClosedOf Cp Cc)) (c_law_is_told3 : CalG P w K mg base 3 "_law_is_told" (spTold3 Cp)) : CalG P w K mg base 7 "_law_twice_right" (spTwice Cp) := by
  obtain ⟨gt, ft, hT, Fh⟩ := PC.pd.tim
  have bT := FunD.bindsN (ps := ["self", "many"]) Fh fun _ _ _ _ _ _ us hl => match us, hl with | [_, _], _ => rfl
  have Ft := f_ptim (P := P) (w := w) (base := base) PC.pd ER Fh B G_GREATEST c_are_prices3 c_are_prices2 c_require_number
  obtain ⟨gm, hM, hFM⟩ := r_pclosed3 (P := P) (w := w) (base := base) PC B c_are_prices2 c_closed_of
  refine calG_of A sc_law_twice_right (fun _ _ _ _ _ _ us hl => match us, hl with | [_, _, _], _ => rfl) (fun vs H Q E h => ?_) (fun _ cdv A outer s H vs Q E gd hr h => ?_)
  · obtain ⟨_, _, _, _, _, _, _, _, _, _, _, rfl, _⟩ := h; rfl
  · obtain ⟨x, t, d, zs, zs2, g, o, ps, ys, c, cps, rfl, PS, RC, N, C, pyz, RD, AP, NY, hQ⟩ := h
    refine ⟨_, (pss_cons (ps_setLc (i := 3) (own := [("_law_table", 5)]) (g := gName 5) (tt := tYes) (by rfl) sc_law_twice_right.nd rfl rfl (sw_true rfl rfl rfl (by decide +kernel)) (pi_list (pv 2)) (blkOk_by (own := [("_law_table", 5)]) (N := N_law_twice_right) (sc := defScope (top 41)) (by decide +kernel)) (fun _ _ _ _ _ => (pg_name (i := 5) sc_law_twice_right.nd rfl (Or.inr rfl))) (fun _ _ _ _ _ => pts_nil)
        (fun _ _ _ _ _ => pe_or2 (pe_callTy (call_dictPK (K := K) rfl rfl) (by rfl) B.dict (by decide +kernel) (pa_cons (pe_lock (pe_lc (own := [("_law_key", 4)]) (g := gName 4) (tt := tYes) (by rfl) sc_law_twice_right.nd (pi_keys (pv 5)) (blkOk_by (own := [("_law_key", 4)]) (N := N_law_twice_right) (sc := scTw) (by decide +kernel)) (fun _ _ _ _ _ => (pg_name (i := 4) sc_law_twice_right.nd rfl (Or.inl rfl))) (fun _ _ _ _ _ => pts_nil) (fun _ _ _ _ _ => pe_tup (pa_cons (pv 4) (pa_cons (pe_op op_mul (pe_dget (hu_of hr) (pv 5) (pv 4) (fun _ _ => rfl)) pe_int) pa_nil))))) pa_nil))
          (pe_callTy (call_dictPT rfl hr.units) (by rfl) B.dict (by decide +kernel) (pa_cons (pe_lock (pe_lc (own := [("_law_key", 4)]) (g := gName 4) (tt := tYes) (by rfl) sc_law_twice_right.nd (pi_keys (pv 5)) (blkOk_by (own := [("_law_key", 4)]) (N := N_law_twice_right) (sc := scTw) (by decide +kernel)) (fun _ _ _ _ _ => (pg_name (i := 4) sc_law_twice_right.nd rfl (Or.inl rfl))) (fun _ _ _ _ _ => pts_nil) (fun _ _ _ _ _ => pe_tup (pa_cons (pv 4) (pa_cons (pe_op op_mul (pe_dget (hu_of hr) (pv 5) (pv 4) (fun _ _ => rfl)) pe_int) pa_nil))))) pa_nil))))
      (pss_cons (ps_setLc (i := 6) (own := [("_law_table", 5)]) (g := gName 5) (tt := tYes) (by rfl) sc_law_twice_right.nd rfl rfl (sw_true rfl rfl rfl (by decide +kernel)) (pi_list (pv 1)) (blkOk_by (own := [("_law_table", 5)]) (N := N_law_twice_right) (sc := defScope (top 41)) (by decide +kernel)) (fun _ _ _ _ _ => (pg_name (i := 5) sc_law_twice_right.nd rfl (Or.inl rfl))) (fun _ _ _ _ _ => pts_nil)
        (fun _ _ _ _ _ => pe_callB (maxK (K := K) rfl rfl) (by rfl) B.max (by decide +kernel) (pa_cons (pe_op op_cat (pe_lst (pa_cons pe_int pa_nil)) (pe_or2 (pe_listVals rfl (pv 5) (by rfl) B.list) (pe_listValsT rfl (pv 5) (by rfl) B.list))) pa_nil)))
      (pss_cons (ps_set (i := 7) sc_law_twice_right.nd rfl (Or.inl rfl) (PE.imp2 (pe_and (pe_cmpR op_lt (pe_ix ix_list (pv 6) pe_int (fun _ _ => rfl)) pe_int (nomark _)) (pe_and (pe_cmpR op_lt (pe_ix ix_list (pv 6) pe_int (fun _ _ => rfl)) pe_int (nomark _)) (pe_one (pe_cmpR op_lt (pe_ix ix_list (pv 6) pe_int (fun _ _ => rfl)) pe_int (nomark _))))) (imp_let2 6)))
      (pss_one (ps_try_only rfl rfl ⟨rfl, by decide, .inl ER.g⟩ takes0 (fun W pn xe tk _ => pss_one (ps_ret (pe_and (pe_cG c_law_is_told3 gd hr (by decide) (by rfl) (pa_cons (SlX.pe_methSl0 (E := E0) (pe_methSlS (pv 0) PC.pd.sp.sc hT Ft bT (hr.mono (by decide)) (fun σ => passAt tk σ) (pa_cons pe_int pa_nil)) PC.pd.sp.sc hM hFM (hr.mono (by decide)) pass0) (pa_cons (pv 3) pa_nil))) (pe_one (pv 7))))) (fun a oe cls d pn _ _ => pss_one (ps_ret (pe_not (pv 7))))))))), ?_⟩
    have one : 1 ≤ sizeLine := by decide
    have two : 2 ≤ sizeLine := by decide
    have big1 : 1000 < sizeLine := by decide
    obtain ⟨TA, TB, TS, ht, hTA, hTB, hTS⟩ := id RC
    obtain ⟨RA, RB, RS, hd, hA, hB, hS⟩ := id RD
    have l5 := N.le
    have l52 := N.pm.length_eq
    have l100 := N.sl
    have m5 := NY.le
    have m100 := NY.sl
    -- twice the closed ones
    refine ⟨_, rfl, d, rfl, ⟨_, SqL.of hd⟩, fun D hD => ?_⟩
    refine lc_newF walk_list [.ref RA, .ref RB, .ref RS] rfl (by show 3 ≤ 1000; decide) (fun _ _ _ _ _ y => y) hD (fun H' e => SqL.of (e _ _ hd)) (fun _ _ => by kernel_rfl) (fun k v H' => (∃ u, H' v = some u) ∧ (k = 0 → H' v = some (.dK (dkF ys fun z => gC c z * 2))) ∧ (k = 1 → H' v = some (.dK (dkF ys fun z => oC c z * 2))) ∧ (k = 2 → H' v = some (.dT (dtF (timeP 2 cps)))))
      (fun k v _ _ up n r => ⟨r.1.imp fun u h => up _ _ n h, fun e => up _ _ n (r.2.1 e), fun e => up _ _ n (r.2.2.1 e), fun e => up _ _ n (r.2.2.2 e)⟩) (fun _ _ _ r => r.1) (fun i y hy H7 e7 _ Q' q' => ?_) (fun H3 ds E3 u3 nq nD lq r3 => ?_)
    · match i, hy with
      | 0, hy =>
        cases hy
        have hX := e7 _ _ hA
        refine .inl ⟨RA, _, hX, trivial, fun od => ⟨_, rfl, RA, od, rfl, .inl ⟨_, upd_same, fun D2 hD2 => ?_⟩⟩⟩
        have nD : D2 ≠ RA := fun z => by rw [z, upd_same] at hD2; cases hD2
        refine lc_newF walk_keys (strsV ys) (by simp [strsV, dkF]) (by simp only [dkF, List.length_map]; omega) (fun i H x H' hi y => ?_) hD2 (fun H' e => e _ _ upd_same) (fun _ _ => by kernel_rfl) (fun k v H' => ∃ z, ys[k]? = some z ∧ H' v = some (.tup [.str z, .int (gC c z * 2)])) (fun k v _ _ up n r => r.imp fun z h => ⟨h.1, up _ _ n h.2⟩) (fun _ _ _ r => r.elim fun z h => ⟨_, h.2⟩) (fun i y hy H2 e2 _ Q2 q2 => ?_) (fun H2 qs e2 u2 _ _ lq2 r2 => ⟨e2 _ _ upd_same, ?_⟩)
        · obtain ⟨rfl, k, v, hk, rfl⟩ := y
          unfold dkF at hk
          rw [List.getElem?_map] at hk
          obtain ⟨z, hz, ek⟩ := Option.map_eq_some_iff.mp hk
          cases ek
          exact ⟨rfl, by show (ys.map V.str)[i]? = _; rw [List.getElem?_map, hz]; rfl⟩
        · have hy' : (ys.map V.str)[i]? = some y := hy
          rw [List.getElem?_map] at hy'
          obtain ⟨z, hz, rfl⟩ := Option.map_eq_some_iff.mp hy'
          have mz := List.mem_of_getElem? hz
          have bnd := NY.pg z mz
          exact ⟨_, rfl, _, rfl, _, rfl, RA, .int (gC c z), rfl, .inl ⟨_, .inr z, .inr ⟨od, e2 _ _ upd_same⟩, rfl, (dkF_val NY.nd (gC c) mz).symm⟩, _, _, rfl, rfl, .inl ⟨by omega, by omega⟩, two, fun T hT => q2 T _ hT (same_new hT) ⟨z, hz, upd_same⟩⟩
        have pr : Paired (fun t (kv : Key × V) => SqT K (upd H2 RA (.dK (dkF ys (gC c)))) t [kV kv.1, kv.2]) qs (dkF ys fun z => gC c z * 2) := by
          refine paired_of (by rw [lq2]; simp [dkF]) fun k t kv ht hkv => ?_
          obtain ⟨z, h1, h2⟩ := r2 k t ht
          unfold dkF at hkv
          rw [List.getElem?_map, h1] at hkv
          cases hkv
          exact .inl (.inl (by rw [upd_ne (fun y => by rw [y, e2 _ _ upd_same] at h2; cases h2)]; exact h2))
        have sab := sameUn e2 hX
        have hDb : upd H2 RA (.dK (dkF ys (gC c))) D2 = some (.lst (qs.map V.ref)) := by rw [upd_ne nD]; exact u2
        generalize upd H2 RA (.dK (dkF ys (gC c))) = H3 at sab hDb pr ⊢
        refine ⟨D2, qs, _, rfl, SqL.of hDb, pr, fun q hq => ?_⟩
        rw [show mergeK [] (dkF ys fun z => gC c z * 2) = dkF ys fun z => gC c z * 2 from mergeK_nodup (more := dkF ys fun z => gC c z * 2) [] (dkF_nodup NY.nd _)]
        exact q' q _ (sab.free hq) (sab.trans (same_new hq)) ⟨⟨_, upd_same⟩, fun _ => upd_same, fun e => absurd e (by decide), fun e => absurd e (by decide)⟩
      | 1, hy =>
        cases hy
        have hX := e7 _ _ hB
        refine .inl ⟨RB, _, hX, trivial, fun od => ⟨_, rfl, RB, od, rfl, .inl ⟨_, upd_same, fun D2 hD2 => ?_⟩⟩⟩
        have nD : D2 ≠ RB := fun z => by rw [z, upd_same] at hD2; cases hD2
        refine lc_newF walk_keys (strsV ys) (by simp [strsV, dkF]) (by simp only [dkF, List.length_map]; omega) (fun i H x H' hi y => ?_) hD2 (fun H' e => e _ _ upd_same) (fun _ _ => by kernel_rfl) (fun k v H' => ∃ z, ys[k]? = some z ∧ H' v = some (.tup [.str z, .int (oC c z * 2)])) (fun k v _ _ up n r => r.imp fun z h => ⟨h.1, up _ _ n h.2⟩) (fun _ _ _ r => r.elim fun z h => ⟨_, h.2⟩) (fun i y hy H2 e2 _ Q2 q2 => ?_) (fun H2 qs e2 u2 _ _ lq2 r2 => ⟨e2 _ _ upd_same, ?_⟩)
        · obtain ⟨rfl, k, v, hk, rfl⟩ := y
          unfold dkF at hk
          rw [List.getElem?_map] at hk
          obtain ⟨z, hz, ek⟩ := Option.map_eq_some_iff.mp hk
          cases ek
          exact ⟨rfl, by show (ys.map V.str)[i]? = _; rw [List.getElem?_map, hz]; rfl⟩
        · have hy' : (ys.map V.str)[i]? = some y := hy
          rw [List.getElem?_map] at hy'
          obtain ⟨z, hz, rfl⟩ := Option.map_eq_some_iff.mp hy'
          have mz := List.mem_of_getElem? hz
          have bnd := NY.po z mz
          exact ⟨_, rfl, _, rfl, _, rfl, RB, .int (oC c z), rfl, .inl ⟨_, .inr z, .inr ⟨od, e2 _ _ upd_same⟩, rfl, (dkF_val NY.nd (oC c) mz).symm⟩, _, _, rfl, rfl, .inl ⟨by omega, by omega⟩, two, fun T hT => q2 T _ hT (same_new hT) ⟨z, hz, upd_same⟩⟩
        have pr : Paired (fun t (kv : Key × V) => SqT K (upd H2 RB (.dK (dkF ys (oC c)))) t [kV kv.1, kv.2]) qs (dkF ys fun z => oC c z * 2) := by
          refine paired_of (by rw [lq2]; simp [dkF]) fun k t kv ht hkv => ?_
          obtain ⟨z, h1, h2⟩ := r2 k t ht
          unfold dkF at hkv
          rw [List.getElem?_map, h1] at hkv
          cases hkv
          exact .inl (.inl (by rw [upd_ne (fun y => by rw [y, e2 _ _ upd_same] at h2; cases h2)]; exact h2))
        have sab := sameUn e2 hX
        have hDb : upd H2 RB (.dK (dkF ys (oC c))) D2 = some (.lst (qs.map V.ref)) := by rw [upd_ne nD]; exact u2
        generalize upd H2 RB (.dK (dkF ys (oC c))) = H3 at sab hDb pr ⊢
        refine ⟨D2, qs, _, rfl, SqL.of hDb, pr, fun q hq => ?_⟩
        rw [show mergeK [] (dkF ys fun z => oC c z * 2) = dkF ys fun z => oC c z * 2 from mergeK_nodup (more := dkF ys fun z => oC c z * 2) [] (dkF_nodup NY.nd _)]
        exact q' q _ (sab.free hq) (sab.trans (same_new hq)) ⟨⟨_, upd_same⟩, fun e => absurd e (by decide), fun _ => upd_same, fun e => absurd e (by decide)⟩
      | 2, hy =>
        cases hy
        have hX := e7 _ _ hS
        refine .inr ⟨RS, _, hX, trivial, fun od => ⟨_, rfl, RS, od, rfl, .inr ⟨_, upd_same, fun D2 hD2 => ?_⟩⟩⟩
        have nD : D2 ≠ RS := fun z => by rw [z, upd_same] at hD2; cases hD2
        refine lc_it walk_keysT (fun i H' => Same (upd H7 RS (.frz od (.dT (dtF cps)))) H' ∧ ∃ ts : List Addr, H' D2 = some (.lst (ts.map V.ref)) ∧ ts.length = i ∧ PairsT H' ts (dtF ((timeP 2 cps).take i))) ⟨same_new hD2, [], upd_same, rfl, by rw [List.take_zero]; exact .nil⟩ (fun i H' _ e => e.1 _ _ upd_same) (fun i y Ha Hc hi e hy => ?_) (fun H2 e => ⟨e.1 _ _ upd_same, ?_⟩)
        · obtain ⟨rfl, k, v, b, hk, rfl, hb⟩ := hy
          obtain ⟨ea, ts, hD', lt, PT⟩ := e
          unfold dtF at hk
          rw [List.getElem?_map] at hk
          obtain ⟨⟨⟨a, b2⟩, n⟩, hpi, ek⟩ := Option.map_eq_some_iff.mp hk
          cases ek
          have hpm := List.mem_of_getElem? hpi
          have bnd := NY.sp _ hpm
          have bnd1 : 1 ≤ n := bnd.2.2.2.1
          have bnd2 : n ≤ 18 := bnd.2.2.2.2
          have hb' : Hc b = some (.tup [.str a, .str b2]) := hb
          have hti : (timeP 2 cps)[i]? = some ((a, b2), n * 2) := by unfold timeP; rw [List.getElem?_map, hpi]; rfl
          refine ⟨rfl, yes_q (iteT ⟨_, rfl, _, rfl, _, rfl, RS, .int n, rfl, .inr ⟨_, [.inr a, .inr b2], b, .inr ⟨od, ea _ _ upd_same⟩, rfl, hb', (dtF_val NY.sn hpm).symm⟩, _, _, rfl, rfl, .inl ⟨by omega, by omega⟩, two, fun T2 hT2 => ⟨ts.map V.ref, ?_, ?_, fun c u z => ?_, ts ++ [T2], by rw [upd_same, List.map_append]; rfl, by rw [List.length_append, lt]; rfl, ?_⟩⟩)⟩
          · rw [upd_ne (ne_of_none hD' hT2)]; exact hD'
          · have : i < (dtF cps).length := hi
            simp only [dtF, List.length_map] at this ⊢
            omega
          · rw [upd_ne (ne_of_none z hD2), upd_ne (ne_of_none (ea _ _ z) hT2)]
            exact ea _ _ z
          · have t2 : TK Hc (upd Hc T2 (.tup [.ref b, .int (n * 2)])) := fun b xs z => same_new hT2 _ _ z
            have hD'' : upd Hc T2 (.tup [.ref b, .int (n * 2)]) D2 = some (.lst (ts.map V.ref)) := by rw [upd_ne (ne_of_none hD' hT2)]; exact hD'
            have t3 := TK.put (ys := ts.map V.ref ++ [V.ref T2]) hD''
            have := (PT.tk (t2.trans t3)).snoc (k := [.inr a, .inr b2]) (t3 _ _ upd_same) ((t2.trans t3) _ _ hb')
            rw [List.take_add_one, hti]
            unfold dtF at this ⊢
            rw [List.map_append]
            exact this
        obtain ⟨e2, qs, u2, lt, PT⟩ := e
        have ll : (dtF cps).length = (timeP 2 cps).length := by simp [dtF, timeP]
        rw [ll, List.take_length] at PT
        have pr : PairsT (upd H2 RS (.dT (dtF cps))) qs (dtF (timeP 2 cps)) := PT.tk fun b xs z => by rw [upd_ne (fun y => by rw [y, e2 _ _ upd_same] at z; cases z)]; exact z
        have sab := sameUn e2 hX
        have hDb : upd H2 RS (.dT (dtF cps)) D2 = some (.lst (qs.map V.ref)) := by rw [upd_ne nD]; exact u2
        generalize upd H2 RS (.dT (dtF cps)) = H4 at sab hDb pr ⊢
        exact ⟨D2, qs, _, rfl, hDb, pr, dtF_nodup (by rw [timeP_keys]; exact NY.sn), fun q hq => q' q _ (sab.free hq) (sab.trans (same_new hq)) ⟨⟨_, upd_same⟩, fun e => absurd e (by decide), fun e => absurd e (by decide), fun _ => upd_same⟩⟩
      | i + 3, hy => cases hy
    obtain ⟨q0, q1, q2, rfl⟩ : ∃ a b c, ds = [a, b, c] := by
      match ds, lq with
      | [a, b, c], _ => exact ⟨a, b, c, rfl⟩
    have RDD : Rec H3 D ys ys (fun z => gC c z * 2) (fun z => oC c z * 2) (timeP 2 cps) := ⟨q0, q1, q2, u3, (r3 0 q0 rfl).2.1 rfl, (r3 1 q1 rfl).2.2.1 rfl, (r3 2 q2 rfl).2.2.2 rfl⟩
    clear r3 nq nD u3 hD
    -- the greatest
    refine ⟨_, rfl, t, rfl, ⟨_, SqL.of (E3 _ _ ht)⟩, fun G hG => ?_⟩
    refine lc_it walk_list (fun i H' => Same H3 H' ∧ ∃ m0 m1 m2, H' G = some (.lst ([V.int m0, .int m1, .int m2].take i)) ∧ (0 < i → MaxOf m0 (zs.map g)) ∧ (1 < i → MaxOf m1 (zs2.map o)) ∧ (2 < i → MaxOf m2 (ps.map Prod.snd))) ⟨same_new hG, 0, 0, 0, upd_same, fun q => absurd q (by decide), fun q => absurd q (by decide), fun q => absurd q (by decide)⟩ (fun i H' _ e => SqL.of (e.1 _ _ (E3 _ _ ht))) (fun i y Ha Hb hi e hy => ?_) (fun H4 e => ?_)
    · obtain ⟨rfl, hy⟩ := hy
      obtain ⟨ea, m0, m1, m2, hGa, k0, k1, k2⟩ := e
      match i, hi, hy with
      | 0, _, hy =>
        cases hy
        have hX := (E3.trans ea) _ _ hTA
        refine ⟨rfl, yes_q (iteT ⟨one, fun l0 hl0 => ?_⟩)⟩
        have s2 := same_new (o := .lst [.int 0]) hl0
        have ul0 : upd Hb l0 (.lst [.int 0]) l0 = some (.lst [.int 0]) := upd_same
        generalize upd Hb l0 (.lst [.int 0]) = Hf at s2 ul0 ⊢
        refine .inl ⟨_, rfl, TA, _, rfl, s2 _ _ hX, fun l1 hl1 => ?_⟩
        have s3 := s2.trans (same_new (o := .lst ((dkF zs g).map (·.2))) hl1)
        have ul1 : upd Hf l1 (.lst ((dkF zs g).map (·.2))) l1 = some (.lst ((dkF zs g).map (·.2))) := upd_same
        have ul0' := same_new (o := .lst ((dkF zs g).map (·.2))) hl1 _ _ ul0
        generalize upd Hf l1 (.lst ((dkF zs g).map (·.2))) = Hg at s3 ul1 ul0' ⊢
        refine ⟨l0, l1, _, _, rfl, rfl, ul0', ul1, by show 1 + _ ≤ sizeLine; simp only [dkF, dtF, List.length_map]; omega, fun l2 hl2 => ?_⟩
        have eqs : [V.int 0] ++ ((dkF zs g).map (·.2)) = ((0 : Int) :: zs.map g).map V.int := by
          unfold dkF
          simp only [List.map_cons, List.map_map]
          rfl
        rw [eqs]
        have s4 := s3.trans (same_new (o := .lst (((0 : Int) :: zs.map g).map V.int)) hl2)
        have ul2 : upd Hg l2 (.lst (((0 : Int) :: zs.map g).map V.int)) l2 = some (.lst (((0 : Int) :: zs.map g).map V.int)) := upd_same
        generalize upd Hg l2 (.lst (((0 : Int) :: zs.map g).map V.int)) = Hh at s4 ul2 ⊢
        refine ⟨l2, _, rfl, SqL.of ul2, by simp, fun mm hm hle => ⟨_, s4 _ _ hGa, (by show 0 < sizeLine; decide), fun b u z => by rw [upd_ne (ne_of_none z hG)]; exact s4 _ _ (ea _ _ z), mm, m1, m2, upd_same, fun _ => ⟨hm, hle⟩, fun q => absurd q (by decide), fun q => absurd q (by decide)⟩⟩
      | 1, _, hy =>
        cases hy
        have hX := (E3.trans ea) _ _ hTB
        refine ⟨rfl, yes_q (iteT ⟨one, fun l0 hl0 => ?_⟩)⟩
        have s2 := same_new (o := .lst [.int 0]) hl0
        have ul0 : upd Hb l0 (.lst [.int 0]) l0 = some (.lst [.int 0]) := upd_same
        generalize upd Hb l0 (.lst [.int 0]) = Hf at s2 ul0 ⊢
        refine .inl ⟨_, rfl, TB, _, rfl, s2 _ _ hX, fun l1 hl1 => ?_⟩
        have s3 := s2.trans (same_new (o := .lst ((dkF zs2 o).map (·.2))) hl1)
        have ul1 : upd Hf l1 (.lst ((dkF zs2 o).map (·.2))) l1 = some (.lst ((dkF zs2 o).map (·.2))) := upd_same
        have ul0' := same_new (o := .lst ((dkF zs2 o).map (·.2))) hl1 _ _ ul0
        generalize upd Hf l1 (.lst ((dkF zs2 o).map (·.2))) = Hg at s3 ul1 ul0' ⊢
        refine ⟨l0, l1, _, _, rfl, rfl, ul0', ul1, by show 1 + _ ≤ sizeLine; simp only [dkF, dtF, List.length_map]; omega, fun l2 hl2 => ?_⟩
        have eqs : [V.int 0] ++ ((dkF zs2 o).map (·.2)) = ((0 : Int) :: zs2.map o).map V.int := by
          unfold dkF
          simp only [List.map_cons, List.map_map]
          rfl
        rw [eqs]
        have s4 := s3.trans (same_new (o := .lst (((0 : Int) :: zs2.map o).map V.int)) hl2)
        have ul2 : upd Hg l2 (.lst (((0 : Int) :: zs2.map o).map V.int)) l2 = some (.lst (((0 : Int) :: zs2.map o).map V.int)) := upd_same
        generalize upd Hg l2 (.lst (((0 : Int) :: zs2.map o).map V.int)) = Hh at s4 ul2 ⊢
        refine ⟨l2, _, rfl, SqL.of ul2, by simp, fun mm hm hle => ⟨_, s4 _ _ hGa, (by show 1 < sizeLine; decide), fun b u z => by rw [upd_ne (ne_of_none z hG)]; exact s4 _ _ (ea _ _ z), m0, mm, m2, upd_same, fun _ => k0 (by decide), fun _ => ⟨hm, hle⟩, fun q => absurd q (by decide)⟩⟩
      | 2, _, hy =>
        cases hy
        have hX := (E3.trans ea) _ _ hTS
        refine ⟨rfl, yes_q (iteT ⟨one, fun l0 hl0 => ?_⟩)⟩
        have s2 := same_new (o := .lst [.int 0]) hl0
        have ul0 : upd Hb l0 (.lst [.int 0]) l0 = some (.lst [.int 0]) := upd_same
        generalize upd Hb l0 (.lst [.int 0]) = Hf at s2 ul0 ⊢
        refine .inr ⟨_, rfl, TS, _, rfl, s2 _ _ hX, fun l1 hl1 => ?_⟩
        have s3 := s2.trans (same_new (o := .lst ((dtF ps).map (·.2))) hl1)
        have ul1 : upd Hf l1 (.lst ((dtF ps).map (·.2))) l1 = some (.lst ((dtF ps).map (·.2))) := upd_same
        have ul0' := same_new (o := .lst ((dtF ps).map (·.2))) hl1 _ _ ul0
        generalize upd Hf l1 (.lst ((dtF ps).map (·.2))) = Hg at s3 ul1 ul0' ⊢
        refine ⟨l0, l1, _, _, rfl, rfl, ul0', ul1, by show 1 + _ ≤ sizeLine; simp only [dkF, dtF, List.length_map]; omega, fun l2 hl2 => ?_⟩
        have eqs : [V.int 0] ++ ((dtF ps).map (·.2)) = ((0 : Int) :: ps.map Prod.snd).map V.int := by
          unfold dtF
          simp only [List.map_cons, List.map_map]
          rfl
        rw [eqs]
        have s4 := s3.trans (same_new (o := .lst (((0 : Int) :: ps.map Prod.snd).map V.int)) hl2)
        have ul2 : upd Hg l2 (.lst (((0 : Int) :: ps.map Prod.snd).map V.int)) l2 = some (.lst (((0 : Int) :: ps.map Prod.snd).map V.int)) := upd_same
        generalize upd Hg l2 (.lst (((0 : Int) :: ps.map Prod.snd).map V.int)) = Hh at s4 ul2 ⊢
        refine ⟨l2, _, rfl, SqL.of ul2, by simp, fun mm hm hle => ⟨_, s4 _ _ hGa, (by show 2 < sizeLine; decide), fun b u z => by rw [upd_ne (ne_of_none z hG)]; exact s4 _ _ (ea _ _ z), m0, m1, mm, upd_same, fun _ => k0 (by decide), fun _ => k1 (by decide), fun _ => ⟨hm, hle⟩⟩⟩
      | i + 3, hi, _ => exact absurd hi (by simp)
    obtain ⟨e4, m0, m1, m2, hG4, k0, k1, k2⟩ := e
    have hG4' : H4 G = some (.lst [.int m0, .int m1, .int m2]) := hG4
    have E4 := E3.trans e4
    refine ⟨G, m0, m1, m2, rfl, hG4', ?_⟩
    rw [let_fits (k0 (show 0 < 3 by decide)) (k1 (show 1 < 3 by decide)) (k2 (show 2 < 3 by decide)) N.pm]
    have N0 : PrN zs zs g o ps := N.perm (List.Perm.refl _) (List.Perm.refl _) (List.Perm.refl _)
    have P4 := PS.same E4
    obtain ⟨dx, ws, sl⟩ := P4.slt
    refine ⟨_, rfl, x, dx, ws, rfl, sl, x, 2, zs, g, o, ps, rfl, P4, by decide, by decide +kernel, fun hf y H5 e5 P5 => ?_, fun hf H5 e5 => ?_⟩
    · rw [hf]
      have N2 : PrN zs zs (fun z => g z * 2) (fun z => o z * 2) (timeP 2 ps) := PrM.fits (N0.timeM (m := 2) (by decide)) hf
      obtain ⟨dy, wy, sly⟩ := P5.slt
      refine ⟨y, dy, wy, rfl, sly, y, zs, zs, _, _, _, rfl, P5, N2, fun y2 c2 cps2 H6 e6 C2 A2 N6 P6 => ?_⟩
      have ec : ∀ u v, InL (codesOf zs) u → InL (codesOf zs) v → c2 u v = 2 * c u v := C2.uniq (C.time (m := 2) (by decide))
      have eg := gC_congr (c := c2) (c' := fun x y => 2 * c x y) N.sg ec
      have eo := oC_congr (c := c2) (c' := fun x y => 2 * c x y) N.sg ec
      have es := sC_congr (c := c2) (c' := fun x y => 2 * c x y) N.sg ec
      have pp : cps2.Perm (timeP 2 cps) := A2.perm2 (AP.time (m := 2)) (fun z => pyz.mem_iff.symm) es
      have eg' : ∀ z ∈ zs, gC c2 z = gC c z * 2 := fun z hz => by rw [eg z hz]; show 2 * _ = _; rw [Int.mul_comm]
      have eo' : ∀ z ∈ zs, oC c2 z = oC c z * 2 := fun z hz => by rw [eo z hz]; show 2 * _ = _; rw [Int.mul_comm]
      have N7 : PrN ys ys (fun z => gC c z * 2) (fun z => oC c z * 2) (timeP 2 cps) := (N6.congr eg' eo').perm pyz pyz pp.symm
      have s46 := (e4.trans e5).trans e6
      refine ⟨_, rfl, y2, D, zs, _, _, cps2, ys, ys, _, _, timeP 2 cps, rfl, P6, RDD.same s46, N7, ⟨fun z => pyz.mem_iff.symm, eg', eo', fun e => pp.mem_iff⟩, fun H7 e7 => ⟨_, rfl, iteT ⟨_, rfl, hQ _ ((E3.trans s46).trans e7)⟩⟩⟩
    · rw [hf]
      exact ⟨true, ER.e, fun _ a ha => ⟨_, rfl, _, rfl, hQ _ (E4.trans e5)⟩, fun q => nomatch q⟩
end
end MN
/-! plain law of closed prices: the least price, a price replaced by a closed one -/
namespace MN
open PySem PySem.Spec PyProof.Rows L2
/-- a change replaced by the closed price of it -/
theorem Clo.lower {L : List Nat} {r r' : Nd → Nd → Option Int} {c : Nd → Nd → Int} (C : Clo L r c) (h : ∀ x y, InL L x → InL L y → r' x y = r x y ∨ (x ≠ y ∧ r' x y = some (c x y))) : Clo L r' c := by
  refine ⟨C.z, C.pos, C.tri, fun x y p hx hy e => ?_, fun x y hx hy n => ?_⟩
  · rcases h x y hx hy with q | ⟨_, q⟩
    · exact C.le x y p hx hy (by rw [← q]; exact e)
    · rw [e] at q
      exact Int.le_of_eq (Option.some.inj q).symm
  · obtain ⟨z, p, hz, nz, e, e2⟩ := C.last x y hx hy n
    rcases h z y hz hy with q | ⟨_, q⟩
    · exact ⟨z, p, hz, nz, by rw [q]; exact e, e2⟩
    · have h1 := C.le z y p hz hy e
      have h2 := C.tri x z y hx hz hy
      exact ⟨z, c z y, hz, nz, q, by omega⟩
section
variable {zs zs2 : List Str} {g o : Str → Int} {ps : List SP2} {c : Nd → Nd → Int}
theorem CloR.putG (N : PrN zs zs2 g o ps) (C : CloR zs g o ps c) {z : Str} (hz : z ∈ zs) : CloR zs (putG g z (gC c z)) o ps c := by
  refine Clo.lower C fun x y hx hy => ?_
  cases x with
  | some a => cases y <;> exact .inl rfl
  | none =>
    cases y with
    | none => exact .inl rfl
    | some b =>
      show (if b ∈ codesOf zs then some (MN.putG g z (gC c z) (sgS b)) else none) = (if b ∈ codesOf zs then some (g (sgS b)) else none) ∨ _
      rw [if_pos (hy b rfl), if_pos (hy b rfl)]
      by_cases e : sgS b = z
      · refine .inr ⟨(fun q => nomatch q), ?_⟩
        show (if b ∈ codesOf zs then some (MN.putG g z (gC c z) (sgS b)) else none) = _
        rw [if_pos (hy b rfl)]
        unfold MN.putG
        rw [if_pos e, ← e]
        rfl
      · refine .inl ?_
        unfold MN.putG
        rw [if_neg e]
theorem CloR.putO (N : PrN zs zs2 g o ps) (C : CloR zs g o ps c) {z : Str} (hz : z ∈ zs) : CloR zs g (MN.putG o z (oC c z)) ps c := by
  refine Clo.lower C fun x y hx hy => ?_
  cases y with
  | some b => cases x <;> exact .inl rfl
  | none =>
    cases x with
    | none => exact .inl rfl
    | some a =>
      show (if a ∈ codesOf zs then some (MN.putG o z (oC c z) (sgS a)) else none) = (if a ∈ codesOf zs then some (o (sgS a)) else none) ∨ _
      rw [if_pos (hx a rfl), if_pos (hx a rfl)]
      by_cases e : sgS a = z
      · refine .inr ⟨(fun q => nomatch q), ?_⟩
        show (if a ∈ codesOf zs then some (MN.putG o z (oC c z) (sgS a)) else none) = _
        rw [if_pos (hx a rfl)]
        unfold MN.putG
        rw [if_pos e, ← e]
        rfl
      · refine .inl ?_
        unfold MN.putG
        rw [if_neg e]
theorem putP_iff {ps : List SP2} (nd : (ps.map Prod.fst).Nodup) {k : Str × Str} {n : Int} {x : SP2} : x ∈ putP ps k n ↔ x = (k, n) ∨ (x.1 ≠ k ∧ x ∈ ps) := by
  unfold putP
  by_cases h : k ∈ ps.map Prod.fst
  · rw [if_pos h, List.mem_map]
    constructor
    · rintro ⟨e, he, rfl⟩
      by_cases q : e.1 = k
      · rw [if_pos q]; exact .inl rfl
      · rw [if_neg q]; exact .inr ⟨q, he⟩
    · rintro (rfl | ⟨q, he⟩)
      · obtain ⟨e, he, q⟩ := List.mem_map.mp h
        exact ⟨e, he, if_pos q⟩
      · exact ⟨x, he, if_neg q⟩
  · rw [if_neg h, List.mem_append, List.mem_singleton]
    constructor
    · rintro (he | rfl)
      · exact .inr ⟨fun q => h (List.mem_map.mpr ⟨x, he, q⟩), he⟩
      · exact .inl rfl
    · rintro (rfl | ⟨_, he⟩)
      · exact .inr rfl
      · exact .inl he
theorem findP_put {ps : List SP2} (nd : (ps.map Prod.fst).Nodup) (k : Str × Str) (n : Int) (x y : Str) : findP (putP ps k n) x y = if (x, y) = k then some n else findP ps x y := by
  have nd' := putP_nd nd k n
  by_cases h : (x, y) = k
  · rw [if_pos h]
    exact (findP_some nd').mpr ((putP_iff nd).mpr (.inl (by rw [h])))
  · rw [if_neg h]
    cases e : findP ps x y with
    | some p => exact (findP_some nd').mpr ((putP_iff nd).mpr (.inr ⟨h, (findP_some nd).mp e⟩))
    | none =>
      cases e' : findP (putP ps k n) x y with
      | none => rfl
      | some p =>
        rcases (putP_iff nd).mp ((findP_some nd').mp e') with q | ⟨_, q⟩
        · exact absurd (Prod.mk.inj q).1 h
        · have := (findP_some nd).mpr q
          rw [e] at this
          cases this
theorem CloR.putP (N : PrN zs zs2 g o ps) (C : CloR zs g o ps c) {a b : Str} (ha : a ∈ zs) (hb : b ∈ zs) (ne : a ≠ b) : CloR zs g o (MN.putP ps (a, b) (sC c a b)) c := by
  refine Clo.lower C fun x y hx hy => ?_
  cases x with
  | none => cases y <;> exact .inl rfl
  | some u =>
    cases y with
    | none => exact .inl rfl
    | some v =>
      show findP (MN.putP ps (a, b) (sC c a b)) (sgS u) (sgS v) = findP ps (sgS u) (sgS v) ∨ (_ ∧ findP (MN.putP ps (a, b) (sC c a b)) (sgS u) (sgS v) = _)
      rw [findP_put N.sn]
      by_cases e : (sgS u, sgS v) = (a, b)
      · rw [if_pos e]
        obtain ⟨e1, e2⟩ := Prod.mk.inj e
        refine .inr ⟨fun q => ne ?_, ?_⟩
        · rw [← e1, ← e2, Option.some.inj q]
        · rw [← e1, ← e2]; rfl
      · rw [if_neg e]; exact .inl rfl
/-- no closed price is less than the least price -/
theorem CloR.least (N : PrN zs zs2 g o ps) (C : CloR zs g o ps c) {cps : List SP2} (A : AllP zs (sC c) cps) {m m' : Int} (hm : m ∈ allN zs zs g o ps) (hle : ∀ y ∈ allN zs zs g o ps, m ≤ y) (hm' : m' ∈ allN zs zs (gC c) (oC c) cps) (hle' : ∀ y ∈ allN zs zs (gC c) (oC c) cps, m' ≤ y) : m' = m := by
  have inl : ∀ {z : Str}, z ∈ zs → InL (codesOf zs) (some (codeOf z)) := fun hz => InL.of (code_mem N.sg hz)
  have sgc : ∀ {z : Str}, z ∈ zs → sgS (codeOf z) = z := fun {z} hz => nS_code (N.sg z hz)
  have mem : ∀ {zs : List Str} {g o : Str → Int} {ps : List SP2} {n : Int}, n ∈ allN zs zs g o ps ↔ (∃ z ∈ zs, g z = n) ∨ (∃ z ∈ zs, o z = n) ∨ ∃ e ∈ ps, e.2 = n := by
    intro zs g o ps n
    unfold allN
    simp only [List.mem_append, List.mem_map, or_assoc]
  -- each price is one of the list
  have edge : ∀ x y p, InL (codesOf zs) x → InL (codesOf zs) y → rOf (codesOf zs) g o ps x y = some p → p ∈ allN zs zs g o ps := fun x y p hx hy h => by
    rw [mem]
    cases x with
    | none =>
      cases y with
      | none => cases h
      | some b =>
        have h' : (if b ∈ codesOf zs then some (g (sgS b)) else none) = some p := h
        rw [if_pos (hy b rfl)] at h'
        exact .inl ⟨sgS b, (mem_codes N.sg).mp (hy b rfl), Option.some.inj h'⟩
    | some a =>
      cases y with
      | none =>
        have h' : (if a ∈ codesOf zs then some (o (sgS a)) else none) = some p := h
        rw [if_pos (hx a rfl)] at h'
        exact .inr (.inl ⟨sgS a, (mem_codes N.sg).mp (hx a rfl), Option.some.inj h'⟩)
      | some b => exact .inr (.inr ⟨_, (findP_some N.sn).mp h, rfl⟩)
  have cnn : ∀ x y, InL (codesOf zs) x → InL (codesOf zs) y → 0 ≤ c x y := fun x y hx hy => by
    by_cases e : x = y
    · rw [e, C.z]; omega
    · have := C.pos x y hx hy e; omega
  have lo : ∀ x y, InL (codesOf zs) x → InL (codesOf zs) y → x ≠ y → m ≤ c x y := fun x y hx hy n => by
    obtain ⟨z, p, hz, nz, e, e2⟩ := C.last x y hx hy n
    have := hle p (edge z y p hz hy e)
    have := cnn x z hx hz
    omega
  refine Int.le_antisymm ?_ ?_
  · rcases mem.mp hm with ⟨z, hz, e⟩ | ⟨z, hz, e⟩ | ⟨x, hx, e⟩
    · have h1 := hle' (gC c z) (mem.mpr (.inl ⟨z, hz, rfl⟩))
      have h2 := C.le none (some (codeOf z)) (g z) InL.no (inl hz) (by show (if _ then _ else _) = _; rw [if_pos (code_mem N.sg hz), sgc hz])
      have h3 : gC c z ≤ g z := h2
      omega
    · have h1 := hle' (oC c z) (mem.mpr (.inr (.inl ⟨z, hz, rfl⟩)))
      have h2 := C.le (some (codeOf z)) none (o z) (inl hz) InL.no (by show (if _ then _ else _) = _; rw [if_pos (code_mem N.sg hz), sgc hz])
      have h3 : oC c z ≤ o z := h2
      omega
    · obtain ⟨a1, a2, a3, _⟩ := N.sp x hx
      have h1 := hle' (sC c x.1.1 x.1.2) (mem.mpr (.inr (.inr ⟨(x.1, sC c x.1.1 x.1.2), (A.iff _).mpr ⟨a1, a2, a3, rfl⟩, rfl⟩)))
      have h2 := C.le (some (codeOf x.1.1)) (some (codeOf x.1.2)) x.2 (inl a1) (inl a2) (by show findP ps (sgS (codeOf x.1.1)) (sgS (codeOf x.1.2)) = _; rw [sgc a1, sgc a2]; exact (findP_some N.sn).mpr hx)
      have h3 : sC c x.1.1 x.1.2 ≤ x.2 := h2
      omega
  · rcases mem.mp hm' with ⟨z, hz, e⟩ | ⟨z, hz, e⟩ | ⟨x, hx, e⟩
    · rw [← e]; exact lo _ _ InL.no (inl hz) fun q => nomatch q
    · rw [← e]; exact lo _ _ (inl hz) InL.no fun q => nomatch q
    · obtain ⟨a1, a2, a3, a4⟩ := (A.iff x).mp hx
      rw [← e, a4]
      exact lo _ _ (inl a1) (inl a2) fun q => a3 (by rw [← sgc a1, ← sgc a2, Option.some.inj q])
end
/-- two closures of the same records -/
theorem Below.congr {zs ys zs' ys' : List Str} {c d c' d' : Nd → Nd → Int} (sg : ∀ z ∈ zs, ∃ c ∈ ("abcde" : Str).cps.toList, z = ⟨#[c]⟩) (sg' : ∀ z ∈ zs', ∃ c ∈ ("abcde" : Str).cps.toList, z = ⟨#[c]⟩) (pz : ys.Perm zs) (pz' : ys'.Perm zs') (e : ∀ x y, InL (codesOf zs) x → InL (codesOf zs) y → c x y = d x y) (e' : ∀ x y, InL (codesOf zs') x → InL (codesOf zs') y → c' x y = d' x y) : Below zs c zs' c' ↔ Below ys d ys' d' := by
  have a1 := gC_congr sg e
  have a2 := oC_congr sg e
  have a3 := sC_congr sg e
  have b1 := gC_congr sg' e'
  have b2 := oC_congr sg' e'
  have b3 := sC_congr sg' e'
  unfold Below
  constructor
  · rintro ⟨h1, h2, h3⟩
    refine ⟨fun z => by rw [pz.mem_iff, pz'.mem_iff]; exact h1 z, fun z hz => ?_, fun a ha b hb n => ?_⟩
    · have hz' := pz.mem_iff.mp hz
      rw [← a1 z hz', ← a2 z hz', ← b1 z ((h1 z).mp hz'), ← b2 z ((h1 z).mp hz')]
      exact h2 z hz'
    · have ha' := pz.mem_iff.mp ha
      have hb' := pz.mem_iff.mp hb
      rw [← a3 a ha' b hb' n, ← b3 a ((h1 a).mp ha') b ((h1 b).mp hb') n]
      exact h3 a ha' b hb' n
  · rintro ⟨h1, h2, h3⟩
    have h1' : ∀ z, z ∈ zs ↔ z ∈ zs' := fun z => by rw [← pz.mem_iff, ← pz'.mem_iff]; exact h1 z
    refine ⟨h1', fun z hz => ?_, fun a ha b hb n => ?_⟩
    · rw [a1 z hz, a2 z hz, b1 z ((h1' z).mp hz), b2 z ((h1' z).mp hz)]
      exact h2 z (pz.mem_iff.mpr hz)
    · rw [a3 a ha b hb n, b3 a ((h1' a).mp ha) b ((h1' b).mp hb) n]
      exact h3 a (pz.mem_iff.mpr ha) b (pz.mem_iff.mpr hb) n
/-- the records of two closures of one record -/
theorem SameRec.clo {zs ys : List Str} {c d : Nd → Nd → Int} {cps dps : List SP2} (sg : ∀ z ∈ zs, ∃ c ∈ ("abcde" : Str).cps.toList, z = ⟨#[c]⟩) (pz : ys.Perm zs) (A : AllP zs (sC c) cps) (A' : AllP ys (sC d) dps) (e : ∀ x y, InL (codesOf zs) x → InL (codesOf zs) y → c x y = d x y) : SameRec zs (gC c) (oC c) cps ys (gC d) (oC d) dps :=
  ⟨fun z => pz.mem_iff.symm, gC_congr sg e, oC_congr sg e, fun x => (A.perm2 A' (fun z => pz.mem_iff.symm) (sC_congr sg e)).mem_iff⟩
theorem SameRec.trans {zs ys ws : List Str} {g o g' o' g'' o'' : Str → Int} {ps qs rs : List SP2} (h : SameRec zs g o ps ys g' o' qs) (h' : SameRec ys g' o' qs ws g'' o'' rs) : SameRec zs g o ps ws g'' o'' rs :=
  ⟨fun z => (h.1 z).trans (h'.1 z), fun z hz => (h.2.1 z hz).trans (h'.2.1 z ((h.1 z).mp hz)), fun z hz => (h.2.2.1 z hz).trans (h'.2.2.1 z ((h.1 z).mp hz)), fun e => (h.2.2.2 e).trans (h'.2.2.2 e)⟩
theorem SameRec.symm {zs ys : List Str} {g o g' o' : Str → Int} {ps qs : List SP2} (h : SameRec zs g o ps ys g' o' qs) : SameRec ys g' o' qs zs g o ps :=
  ⟨fun z => (h.1 z).symm, fun z hz => (h.2.1 z ((h.1 z).mpr hz)).symm, fun z hz => (h.2.2.1 z ((h.1 z).mpr hz)).symm, fun e => (h.2.2.2 e).symm⟩
theorem SameRec.refl {zs : List Str} {g o : Str → Int} {ps : List SP2} : SameRec zs g o ps zs g o ps := ⟨fun _ => Iff.rfl, fun _ _ => rfl, fun _ _ => rfl, fun _ => Iff.rfl⟩
theorem bool_of_iff {b b' : Bool} {p : Prop} (h : b = true ↔ p) (h' : b' = true ↔ p) : b = b' := by
  cases b <;> cases b' <;> simp_all
end MN
/-! _law_right of k03 -/
namespace MN
open PySem PySem.Spec PyProof.Rows L2
abbrev scRg : Scope := { kind := .function, names := [(".0", .local), ("_law_table", .cell), ("dict", .globalImplicit), ("_law_pot", .cell)], isGenerator := false, isCoroutine := false }
theorem PS.imp2 {X : Cx} {st : Stmt} {t t' : TS} (h : PS X st t) (i : ∀ D σ H, t' D σ H → t D σ H) : PS X st t' := ⟨fun pins s σ H D I q => h.run pins s σ H D I (i _ _ _ q)⟩
/-- some signs, old ones or new ones -/
def tPick : TE := fun σ H Q => ∃ p q zs', σ[0]? = some (some (.ref p)) ∧ Pot H p ∧ σ[7]? = some (some (.ref q)) ∧ H q = some (.lst (strsV zs')) ∧ q ≠ p ∧ SgnOk zs' ∧ ∀ l zs H', SgnOk zs → Ex p H H' → H' l = some (.lst (strsV zs)) → l ≠ p → Q (.ref l) H'
/-- other tables -/
def tOth : TS := fun D σ H => ∃ (p t t2 x d y q : Addr) (o5 o6 : Option V) (zs zs2 zs' zs2' : List Str) (g o g' o' : Str → Int) (ps ps' : List SP2), σ = [some (.ref p), some (.ref t), some (.ref x), some (.ref d), some (.ref y), o5, o6, some (.ref q), some (.ref t2), none, none, none, none] ∧ Pot H p ∧ Rec H t zs zs2 g o ps ∧ PrN zs zs2 g o ps ∧ Rec H t2 zs' zs2' g' o' ps' ∧ PrN zs' zs2' g' o' ps' ∧
  ∀ (t3 : Addr) (zs3 zs4 : List Str) (g3 o3 : Str → Int) (ps3 : List SP2) (H' : Hp), Ex p H H' → Rec H' t3 zs3 zs4 g3 o3 ps3 → PrN zs3 zs4 g3 o3 ps3 → D.nx [some (.ref p), some (.ref t), some (.ref x), some (.ref d), some (.ref y), o5, o6, some (.ref q), some (.ref t3), none, none, none, none] H'
theorem putG_at {f : Str → Int} {z : Str} {n : Int} : putG f z n z = n := if_pos rfl
theorem putG_ne {f : Str → Int} {z y : Str} {n : Int} (h : y ≠ z) : putG f z n y = f y := if_neg h
theorem exUn {p A : Addr} {H H' : Hp} {u v : HO} (e : Ex p (upd H A v) H') (hA : H A = some u) (n : A ≠ p) : Ex p H (upd H' A u) := by
  obtain ⟨a, b, c, hp⟩ := e.pot
  refine ⟨fun x o hx q => ?_, a, b, c, by rw [upd_ne n.symm]; exact hp⟩
  by_cases z : x = A
  · rw [z, upd_same]; rw [z, hA] at q; exact q
  · rw [upd_ne z]; exact e.keep _ _ hx (by rw [upd_ne z]; exact q)
/-- two prices that are equal -/
theorem eq_true {Cp : Addr} {H : Hp} {x y : Addr} {zs zs' : List Str} {g o g' o' : Str → Int} {ps ps' : List SP2} (h : PrS Cp H x zs g o ps) (h' : PrS Cp H y zs' g' o' ps') (SR : SameRec zs g o ps zs' g' o' ps') :
    ∃ dx ys qs dy ys' qs' ws ws', SlX.Slt H x Cp dx ws ∧ SlX.Slt H y Cp dy ws' ∧ PrAt Cp H x dx ys ys g o qs ∧ PrAt Cp H y dy ys' ys' g' o' qs' ∧ eqPr ys ys g o qs ys' ys' g' o' qs' = true := by
  obtain ⟨dx, ys, qs, hP, N, pm, _, pq, _⟩ := h
  obtain ⟨dy, ys', qs', hP', N', pm', _, pq', _⟩ := h'
  obtain ⟨ws, sl⟩ := hP.inst
  obtain ⟨ws', sl'⟩ := hP'.inst
  exact ⟨dx, ys, qs, dy, ys', qs', ws, ws', sl, sl', hP, hP', ((eqPr_iff N N').trans (SameRec.perm pm pq pm' pq')).mpr SR⟩
theorem allN_perm {ys zs : List Str} {g o : Str → Int} {qs ps : List SP2} (pm : ys.Perm zs) (pq : qs.Perm ps) (n : Int) : n ∈ allN ys ys g o qs ↔ n ∈ allN zs zs g o ps := by
  unfold allN
  exact (((pm.map g).append (pm.map o)).append (pq.map Prod.snd)).mem_iff
theorem Below.refl {zs : List Str} {c d : Nd → Nd → Int} (sg : ∀ z ∈ zs, ∃ c ∈ ("abcde" : Str).cps.toList, z = ⟨#[c]⟩) (e : ∀ x y, InL (codesOf zs) x → InL (codesOf zs) y → c x y = d x y) : Below zs c zs d :=
  ⟨fun _ => Iff.rfl, fun z hz => ⟨Int.le_of_eq (gC_congr sg e z hz), Int.le_of_eq (oC_congr sg e z hz)⟩, fun a ha b hb n => Int.le_of_eq (sC_congr sg e a ha b hb n)⟩
section
variable {P : Program} {w : World} {K : PySem.W.Frag} {mg : Str → Option Value} {base : Heap} {Cp Cc IO : Addr}
def spRight03 : Sp := fun vs H Q _ => ∃ p, vs = [.ref p] ∧ Pot H p ∧ ∀ H', Ex p H H' → Q (.bl true) H'
abbrev N_law_right : List Str := ["_law_pot", "_law_tables_here", "_law_prices", "_law_due", "_law_closed_here", "_law_kind", "_law_price", "_law_signs_here", "_law_others", "_law_key", "_law_table", "_law_other", "_law_told"]
theorem sc_law_right : FnScope N_law_right ["_law_pot"] (defScope (top 42)) := ⟨rfl, rfl, rfl, by decide +kernel, rfl, by decide +kernel, by decide +kernel⟩
theorem c_law_right03 (A : At K mg "_law_right" (top 42)) (B : Blt mg) (PC : Pr3 K mg Cp Cc) (GL : GlP mg) (c_kic : Cal P w K mg base 3 "is_kind_of_change" (spKic K)) (c_is_price : Cal P w K mg base 2 "is_price" (spIsPrice K)) (c_are_prices2 : Cal P w K mg base 3 "are_prices" spAreP2) (c_closed_of : Cal P w K mg base 3 "closed_of" (spClosedOf Cp Cc)) (c_require_prices : Cal P w K mg base 1 "require_prices" (spReqPrices Cp))
    (c_law_dip : Cal P w K mg base 1 "_law_dip" spDip) (c_law_signs02 : Cal P w K mg base 3 "_law_signs" spSignsL) (c_law_tables : Cal P w K mg base 3 "_law_tables" spTables) (c_law_made02 : Cal P w K mg base 6 "_law_made" (spMade02 Cp)) (c_law_closed3 : Cal P w K mg base 2 "_law_closed" spClosed3) (c_law_is_told3 : CalG P w K mg base 3 "_law_is_told" (spTold3 Cp)) (c_law_kinds : Cal P w K mg base 1 "_law_kinds" spKinds) (c_law_is_below : Cal P w K mg base 1 "_law_is_below" spBelow3) (c_law_twice_right : CalG P w K mg base 7 "_law_twice_right" (spTwice Cp)) : CalG P w K mg base 8 "_law_right" spRight03 := by
  obtain ⟨gm, hM, hFM⟩ := r_pclosed3 (P := P) (w := w) (base := base) PC B c_are_prices2 c_closed_of
  obtain ⟨gi, hI, hFI⟩ := r_pisc (P := P) (w := w) (base := base) PC B c_are_prices2 c_closed_of
  obtain ⟨ga, hA, hFA⟩ := r_piam (P := P) (w := w) (base := base) PC B c_require_prices c_closed_of
  obtain ⟨gw, hW, hFW⟩ := r_pwith (P := P) (w := w) (base := base) PC.pd B GL c_kic c_is_price c_are_prices2
  obtain ⟨ge, fde, hE, fE, Ge⟩ := PC.pd.eq
  have bE := FunD.bindsN (ps := ["self", "other"]) Ge fun _ _ _ _ _ _ us hl => match us, hl with | [_, _], _ => rfl
  have Fq := f_peqA (P := P) (w := w) (base := base) PC.pd Ge B
  obtain ⟨pp5, pg5, fd5, hpm, Gm⟩ := PC.pd.psml
  have Fm := (f_psmall (P := P) (w := w) (mg := mg) (base := base) PC.pd.sp Gm B).raw (FunD.bindsN (ps := ["self"]) Gm fun _ _ _ _ _ _ us hl => match us, hl with | [_], _ => rfl) .nil
  refine calG_of A sc_law_right (fun _ _ _ _ _ _ us hl => match us, hl with | [_], _ => rfl) (fun vs H Q E h => ?_) (fun _ cdv A outer s H vs Q E gd hr h => ?_)
  · obtain ⟨_, rfl, _⟩ := h; rfl
  · obtain ⟨p, rfl, hp, hQ⟩ := h
    refine ⟨_, (pss_cons (ps_set (i := 1) sc_law_right.nd rfl (Or.inl rfl) (pe_c c_law_tables hr (by decide) (by rfl) (pa_cons (pv 0) (pa_cons (pe_c c_law_signs02 hr (by decide) (by rfl) (pa_cons (pv 0) pa_nil)) pa_nil))))
      (pss_cons (ps_par (i := 2) (j := 3) (by rfl) sc_law_right.nd rfl rfl (by decide) rfl rfl (pa_cons (pe_c c_law_made02 hr (by decide) (by rfl) (pa_cons (pv 1) pa_nil)) (pa_cons (pe_c c_law_closed3 hr (by decide) (by rfl) (pa_cons (pv 1) pa_nil)) pa_nil)) (by rfl))
      (pss_cons (ps_set (i := 4) sc_law_right.nd rfl (Or.inl rfl) (SlX.pe_methSl0 (E := E0) (pv 2) PC.pd.sp.sc hM hFM (hr.mono (by decide)) pass0))
      (pss_cons (ps_if (PW.pt (pw_or (pt_not (pt_val (pe_cG c_law_is_told3 gd hr (by decide) (by rfl) (pa_cons (pv 4) (pa_cons (pv 3) pa_nil))))) (pw_or (pt_not (pt_val (pe_cG c_law_is_told3 gd hr (by decide) (by rfl) (pa_cons (pv 2) (pa_cons (pv 1) pa_nil))))) (pw_or1 (pt_cmpR op_notBl (SlX.pe_methSl0 (E := E0) (pv 4) PC.pd.sp.sc hI hFI (hr.mono (by decide)) pass0) pe_bl (nomark _)))))) (pss_one (ps_ret pe_bl)) pss_nil)
      (pss_cons (ps_if (PW.pt (pw_or (pt_cmpR op_ne (SlX.pe_methSl0 (E := E0) (pv 2) PC.pd.sp.sc hI hFI (hr.mono (by decide)) pass0) (pe_cmpR (op_eqL3 hr.units) (pv 1) (pv 3) (nomark _)) (nomark _)) (pw_or (pt_cmpR (op_neOwn Fq (hr.mono (by decide)) hE fE bE pass0 PC.pd.ne PC.pd.ob) (SlX.pe_methSl0 (E := E0) (pv 4) PC.pd.sp.sc hM hFM (hr.mono (by decide)) pass0) (pv 4) (nomark _)) (pw_or1 (pt_cmpR op_ne (SlX.pe_propSl (E := E0) (pv 4) PC.pd.sp.sc hpm.at_ hpm.get hpm.tak hpm.rec_ Fm (hr.mono (by decide)) (fun _ _ _ _ h => h)) (SlX.pe_propSl (E := E0) (pv 2) PC.pd.sp.sc hpm.at_ hpm.get hpm.tak hpm.rec_ Fm (hr.mono (by decide)) (fun _ _ _ _ h => h)) (nomark _)))))) (pss_one (ps_ret pe_bl)) pss_nil)
      (pss_cons (ps_for PassesOwn.never rfl (pi_list (pe_c c_law_kinds hr (by decide) (by rfl) (pa_cons (pv 3) pa_nil))) (pg_tup rfl (pgs_cons (pg_name (i := 5) sc_law_right.nd rfl (Or.inl rfl)) (pgs_cons (pg_name (i := 6) sc_law_right.nd rfl (Or.inl rfl)) pgs_nil))) (pss_one (ps_if (pt_cmpR (op_neOwn Fq (hr.mono (by decide)) hE fE bE pass0 PC.pd.ne PC.pd.ob) (SlX.pe_methSl0 (E := E0) (SlX.pe_methSl (E := E0) (pv 2) PC.pd.sp.sc hW hFW (hr.mono (by decide)) pass0 (pa_cons (pv 5) (pa_cons (pv 6) pa_nil))) PC.pd.sp.sc hM hFM (hr.mono (by decide)) pass0) (pv 4) (nomark _)) (pss_one (ps_ret pe_bl)) pss_nil)))
      (pss_cons (ps_if (PW.pt (pw_or (pt_not (pt_val (SlX.pe_methSl (E := E0) (pv 2) PC.pd.sp.sc hA hFA (hr.mono (by decide)) pass0 (pa_cons (pv 4) pa_nil)))) (pw_or (pt_not (pt_val (SlX.pe_methSl (E := E0) (pv 4) PC.pd.sp.sc hA hFA (hr.mono (by decide)) pass0 (pa_cons (pv 2) pa_nil)))) (pw_or1 (pt_not (pt_val (pe_cG c_law_twice_right gd hr (by decide) (by rfl) (pa_cons (pv 2) (pa_cons (pv 1) (pa_cons (pv 3) pa_nil)))))))))) (pss_one (ps_ret pe_bl)) pss_nil)
      (pss_cons (ps_set (i := 7) sc_law_right.nd rfl (Or.inl rfl) (pe_callB (call_sortedD rfl) (by rfl) B.sorted (by decide +kernel) (pa_cons (pe_ix ix_list (pv 1) pe_int (fun _ _ => rfl)) pa_nil)))
      (pss_cons (ps_set (i := 8) sc_law_right.nd rfl (Or.inl rfl) (pe_c c_law_tables hr (by decide) (by rfl) (pa_cons (pv 0) (pa_cons (PE.imp2 (t' := tPick) (pe_ifExp (pt_cmpR op_gt (pe_c c_law_dip hr (by decide) (by rfl) (pa_cons (pv 0) (pa_cons pe_int pa_nil))) pe_int (nomark _)) (pv 7) (pe_c c_law_signs02 hr (by decide) (by rfl) (pa_cons (pv 0) pa_nil))) ?impA) pa_nil))))
      (pss_cons (PS.imp2 (t' := tOth) (ps_if (pt_cmpR op_eq (pe_c c_law_dip hr (by decide) (by rfl) (pa_cons (pv 0) (pa_cons pe_int pa_nil))) pe_int (nomark _)) (pss_one (ps_setLc (i := 8) (own := [("_law_table", 10)]) (g := gName 10) (tt := tYes) (by rfl) sc_law_right.nd rfl rfl (sw_true rfl rfl rfl (by decide +kernel)) (pi_list (pv 1)) (blkOk_by (own := [("_law_table", 10)]) (N := N_law_right) (sc := defScope (top 42)) (by decide +kernel)) (fun _ _ _ _ _ => (pg_name (i := 10) sc_law_right.nd rfl (Or.inr rfl))) (fun _ _ _ _ _ => pts_nil) (fun _ _ _ _ _ => pe_or2 (pe_callTy (call_dictPK (K := K) rfl rfl) (by rfl) B.dict (by decide +kernel) (pa_cons (pe_lock (pe_lc (own := [("_law_key", 9)]) (g := gName 9) (tt := tYes) (by rfl) sc_law_right.nd (pi_keys (pv 10)) (blkOk_by (own := [("_law_key", 9)]) (N := N_law_right) (sc := scRg) (by decide +kernel)) (fun _ _ _ _ _ => (pg_name (i := 9) sc_law_right.nd rfl (Or.inl rfl))) (fun _ _ _ _ _ => pts_nil) (fun _ _ _ _ _ => pe_tup (pa_cons (pv 9) (pa_cons (pe_callB (call_min2 rfl) (by rfl) B.min (by decide +kernel) (pa_cons pe_int (pa_cons (pe_op op_add (pe_dget (hu_of hr) (pv 10) (pv 9) (fun _ _ => rfl)) (pe_c c_law_dip hr (by decide) (by rfl) (pa_cons (pv 0) (pa_cons pe_int pa_nil)))) pa_nil))) pa_nil))))) pa_nil)) (pe_callTy (call_dictPT rfl hr.units) (by rfl) B.dict (by decide +kernel) (pa_cons (pe_lock (pe_lc (own := [("_law_key", 9)]) (g := gName 9) (tt := tYes) (by rfl) sc_law_right.nd (pi_keys (pv 10)) (blkOk_by (own := [("_law_key", 9)]) (N := N_law_right) (sc := scRg) (by decide +kernel)) (fun _ _ _ _ _ => (pg_name (i := 9) sc_law_right.nd rfl (Or.inl rfl))) (fun _ _ _ _ _ => pts_nil) (fun _ _ _ _ _ => pe_tup (pa_cons (pv 9) (pa_cons (pe_callB (call_min2 rfl) (by rfl) B.min (by decide +kernel) (pa_cons pe_int (pa_cons (pe_op op_add (pe_dget (hu_of hr) (pv 10) (pv 9) (fun _ _ => rfl)) (pe_c c_law_dip hr (by decide) (by rfl) (pa_cons (pv 0) (pa_cons pe_int pa_nil)))) pa_nil))) pa_nil))))) pa_nil))))) pss_nil) ?impB)
      (pss_cons (ps_par (i := 11) (j := 12) (by rfl) sc_law_right.nd rfl rfl (by decide) rfl rfl (pa_cons (pe_c c_law_made02 hr (by decide) (by rfl) (pa_cons (pv 8) pa_nil)) (pa_cons (pe_c c_law_closed3 hr (by decide) (by rfl) (pa_cons (pv 8) pa_nil)) pa_nil)) (by rfl))
      (pss_cons (ps_if (PW.pt (pw_or (pt_cmpR op_ne (SlX.pe_methSl (E := E0) (pv 2) PC.pd.sp.sc hA hFA (hr.mono (by decide)) pass0 (pa_cons (pv 11) pa_nil)) (pe_c c_law_is_below hr (by decide) (by rfl) (pa_cons (pv 3) (pa_cons (pv 12) pa_nil))) (nomark _)) (pw_or1 (pt_cmpR op_ne (SlX.pe_methSl (E := E0) (pv 11) PC.pd.sp.sc hA hFA (hr.mono (by decide)) pass0 (pa_cons (pv 2) pa_nil)) (pe_c c_law_is_below hr (by decide) (by rfl) (pa_cons (pv 12) (pa_cons (pv 3) pa_nil))) (nomark _))))) (pss_one (ps_ret pe_bl)) pss_nil)
      (pss_one (ps_ret (pe_cG c_law_is_told3 gd hr (by decide) (by rfl) (pa_cons (SlX.pe_methSl0 (E := E0) (pv 2) PC.pd.sp.sc hM hFM (hr.mono (by decide)) pass0) (pa_cons (pv 3) pa_nil))))))))))))))))), ?_⟩
    case impA =>
      rintro σ H Q ⟨p, q, zs', h0, hp, h7, hq, nq, ok, k⟩
      obtain ⟨a, b, c, hp'⟩ := id hp
      refine ⟨_, h0, p, 4, a, b, c, rfl, hp', by decide, by decide, fun r a' b' c' r0 r4 => ⟨_, _, rfl, rfl, _, rfl, ?_⟩⟩
      by_cases h : 0 < r
      · exact iteDT h ⟨_, h7, k q zs' _ ok Ex.turn (by rw [upd_ne nq]; exact hq) nq⟩
      · refine iteDF h ⟨_, h0, p, rfl, Pot.upd, fun l zs H' ok fl ex hl => k l zs H' ok (Ex.turn.trans ex) hl fun z => ?_⟩
        rw [z, upd_same] at fl
        cases fl
    case impB =>
      rintro D σ H ⟨p, t, t2, x, d, y, q, o5, o6, zs, zs2, zs', zs2', g, o, g', o', ps, ps', rfl, hp, RC, N, RC2, N2, k⟩
      obtain ⟨a, b, c, hp'⟩ := id hp
      refine ⟨_, rfl, p, 2, a, b, c, rfl, hp', by decide, by decide, fun r a' b' c' r0 r2 => ⟨rfl, _, rfl, ?_⟩⟩
      have ex1 : Ex p H (upd H p (potO a' b' c')) := Ex.turn
      have RC1 := RC.ex ex1 hp
      have RC21 := RC2.ex ex1 hp
      by_cases h : ¬ r = 0
      · exact iteDF (fun q => h (by injection q)) (k t2 zs' zs2' g' o' ps' _ ex1 RC21 N2)
      replace h := Classical.not_not.mp h
      have hp1 := ex1.pot
      have two : 2 ≤ sizeLine := by decide
      have big : 1000 < sizeLine := by decide
      have l5 := N.le
      have l52 := N.pm.length_eq
      have l100 := N.sl
      have nd2 := N.pm.nodup_iff.mpr N.nd
      have po2 : ∀ z ∈ zs2, 1 ≤ o z ∧ o z ≤ 9 := fun z hz => N.po z (N.pm.mem_iff.mp hz)
      generalize upd H p (potO a' b' c') = H1 at ex1 RC1 RC21 hp1 ⊢
      obtain ⟨TA, TB, TS, ht, hTA1, hTB1, hTS1⟩ := RC1
      refine iteDT (by rw [h]) ⟨_, rfl, t, rfl, ⟨_, SqL.of ht⟩, fun Dd hDd => ?_⟩
      have nDdp : Dd ≠ p := by obtain ⟨_, _, _, e⟩ := hp1; exact (ne_of_none e hDd).symm
      refine lc_it walk_list (fun i H' => Ex p H1 H' ∧ ∃ q0 q1 q2 f0 f1 rs, H' Dd = some (.lst ([V.ref q0, .ref q1, .ref q2].take i)) ∧ (0 < i → H' q0 = some (.dK (dkF zs f0)) ∧ ∀ z ∈ zs, 1 ≤ f0 z ∧ f0 z ≤ 9) ∧ (1 < i → H' q1 = some (.dK (dkF zs2 f1)) ∧ ∀ z ∈ zs2, 1 ≤ f1 z ∧ f1 z ≤ 9) ∧ (2 < i → H' q2 = some (.dT (dtF rs)) ∧ rs.map Prod.fst = ps.map Prod.fst ∧ ∀ e ∈ rs, 1 ≤ e.2 ∧ e.2 ≤ 9))
        ⟨(Ex.refl hp1).new hDd, 0, 0, 0, fun _ => 0, fun _ => 0, [], upd_same, fun z => absurd z (by decide), fun z => absurd z (by decide), fun z => absurd z (by decide)⟩ (fun i H' _ e => SqL.of (e.1.refs hp1 (bs := [TA, TB, TS]) ht)) (fun i y Ha Hb hi e hy => ?_) (fun H6 e => ?_)
      · obtain ⟨rfl, hy⟩ := hy
        obtain ⟨exa, q0, q1, q2, f0, f1, rs0, hDa0, k0, k1, k2⟩ := e
        match i, hi, hy with
        | 0, _, hy =>
          cases hy
          have hDa : Hb Dd = some (.lst ([] : List V)) := hDa0
          have hX : Hb TA = some (.dK (dkF zs g)) := exa.dK hp1 hTA1
          have nXp : TA ≠ p := fun z => by obtain ⟨_, _, _, e⟩ := exa.pot; rw [z, e] at hX; cases hX
          refine ⟨rfl, yes_q (iteT (.inl ⟨TA, _, hX, trivial, fun od => ⟨_, rfl, TA, od, rfl, .inl ⟨_, upd_same, fun D2 hD2 => ?_⟩⟩⟩))⟩
          have nD : D2 ≠ TA := fun z => by rw [z, upd_same] at hD2; cases hD2
          have potL : Pot (upd Hb TA (.frz od (.dK (dkF zs g)))) p := by obtain ⟨a, b, c, e⟩ := exa.pot; exact ⟨a, b, c, by rw [upd_ne nXp.symm]; exact e⟩
          have nD2p : D2 ≠ p := by obtain ⟨_, _, _, e⟩ := potL; exact (ne_of_none e hD2).symm
          refine lc_it walk_keys (fun j H' => Ex p (upd Hb TA (.frz od (.dK (dkF zs g)))) H' ∧ ∃ (f : Str → Int) (ts : List Addr), H' D2 = some (.lst (ts.map V.ref)) ∧ ts.length = j ∧ Paired (fun (t : Addr) (z : Str) => H' t = some (.tup [.str z, .int (f z)])) ts (zs.take j) ∧ ∀ z ∈ zs.take j, 1 ≤ f z ∧ f z ≤ 9) ⟨(Ex.refl potL).new hD2, fun _ => 0, [], upd_same, rfl, .nil, fun _ h => (nomatch h)⟩ (fun j H' _ e => e.1.keep _ _ nXp upd_same) (fun j y Hc0 Hc hj e hy => ?_) (fun H6 e => ⟨e.1.keep _ _ nXp upd_same, ?_⟩)
          · obtain ⟨rfl, kk, v, hkk, rfl⟩ := hy
            obtain ⟨exc, f, ts, hDc, lt, pr, fb⟩ := e
            unfold dkF at hkk
            rw [List.getElem?_map] at hkk
            obtain ⟨z, hz, ek⟩ := Option.map_eq_some_iff.mp hkk
            cases ek
            have mz := List.mem_of_getElem? hz
            have bn := N.pg z mz
            obtain ⟨a, b, c, hpc⟩ := exc.pot
            refine ⟨rfl, yes_q (iteT ⟨_, rfl, _, rfl, _, rfl, TA, .int (g z), rfl, .inl ⟨_, .inr z, .inr ⟨od, exc.keep _ _ nXp upd_same⟩, rfl, (dkF_val N.nd g mz).symm⟩, _, rfl, p, 2, a, b, c, rfl, hpc, by decide, by decide, fun r a' b' c' r0 r2 => ⟨_, _, rfl, rfl, _, _, rfl, two, fun T hT => ?_⟩⟩)⟩
            have bv : 1 ≤ (if g z + r < 9 then g z + r else 9) ∧ (if g z + r < 9 then g z + r else 9) ≤ 9 := by split <;> omega
            generalize (if g z + r < 9 then g z + r else 9) = n at bv hT ⊢
            have exd : Ex p Hc (upd Hc p (potO a' b' c')) := Ex.turn
            have hDd := exd.refs exc.pot hDc
            have exe := exd.new (o := .tup [.str z, .int n]) hT
            have hDe := same_new (o := .tup [.str z, .int n]) hT _ _ hDd
            have uT : upd (upd Hc p (potO a' b' c')) T (.tup [.str z, .int n]) T = some (.tup [.str z, .int n]) := upd_same
            have tkn : zs.take (j + 1) = zs.take j ++ [z] := by rw [List.take_add_one, hz]; rfl
            have nz : z ∉ zs.take j := fun q => by
              have h := N.nd
              rw [← List.take_append_drop (j + 1) zs, tkn, List.append_assoc, List.nodup_append] at h
              exact h.2.2 z q z (List.mem_append_left _ List.mem_cons_self) rfl
            refine ⟨ts.map V.ref, hDe, ?_, (exc.trans exe).put hD2 nD2p, putG f z n, ts ++ [T], by rw [upd_same, List.map_append]; rfl, by rw [List.length_append, lt]; rfl, ?_, fun y hy => ?_⟩
            · rw [List.length_map, lt]
              have : j < (dkF zs g).length := hj
              simp only [dkF, List.length_map] at this
              omega
            · rw [tkn]
              have nbD : ∀ {b : Addr} {xs : List V}, upd (upd Hc p (potO a' b' c')) T (.tup [.str z, .int n]) b = some (.tup xs) → b ≠ D2 := fun h q => by rw [q, hDe] at h; cases h
              refine paired_app (pair_congr (f := f) (fun y hy => (putG_ne fun q => nz (by rw [← q]; exact hy)).symm) (L2.Paired.mapP pr fun b y h => ?_)) (.cons (by rw [upd_ne (nbD uT), putG_at]; exact uT) .nil)
              have := exe.tup exc.pot h
              rw [upd_ne (nbD this)]; exact this
            · rw [tkn] at hy
              rcases List.mem_append.mp hy with hy | hy
              · rw [putG_ne (fun q => nz (by rw [← q]; exact hy))]; exact fb y hy
              · rw [List.mem_singleton.mp hy, putG_at]; exact bv
          obtain ⟨ex6, f, ts, hD6, lt, pr, fb⟩ := e
          have lk : (dkF zs g).length = zs.length := by simp [dkF]
          rw [lk, List.take_length] at pr fb
          have exe : Ex p Hb (upd H6 TA (.dK (dkF zs g))) := exUn ex6 hX nXp
          have hDe : upd H6 TA (.dK (dkF zs g)) D2 = some (.lst (ts.map V.ref)) := by rw [upd_ne nD]; exact hD6
          have pre : Paired (fun t (kv : Key × V) => SqT K (upd H6 TA (.dK (dkF zs g))) t [kV kv.1, kv.2]) ts (dkF zs f) := paired_map_r (fun z => ((Sum.inr z : Key), V.int (f z))) (L2.Paired.mapP pr fun t z h => .inl (.inl (by rw [upd_ne (fun q => by rw [q, ex6.keep _ _ nXp upd_same] at h; cases h)]; exact h)))
          generalize upd H6 TA (.dK (dkF zs g)) = He at exe hDe pre ⊢
          refine ⟨D2, ts, _, rfl, SqL.of hDe, pre, fun q hq => ?_⟩
          rw [show mergeK [] (dkF zs f) = dkF zs f from mergeK_nodup (more := dkF zs f) [] (dkF_nodup N.nd f)]
          have hDq := same_new (o := .dK (dkF zs f)) hq _ _ (exe.refs exa.pot (bs := []) hDa)
          have nqD : q ≠ Dd := fun z => by rw [z, exe.refs exa.pot (bs := []) hDa] at hq; cases hq
          have hqe : upd (upd He q (.dK (dkF zs f))) Dd (.lst ([] ++ [.ref q])) q = some (.dK (dkF zs f)) := by rw [upd_ne nqD, upd_same]
          exact ⟨_, hDq, (by show 0 < sizeLine; omega), ((exa.trans exe).new hq).put hDd nDdp, q, 0, 0, f, f, [], upd_same, fun _ => ⟨hqe, fb⟩, fun z => absurd z (by decide), fun z => absurd z (by decide)⟩
        | 1, _, hy =>
          cases hy
          have hDa : Hb Dd = some (.lst [V.ref q0]) := hDa0
          have hX : Hb TB = some (.dK (dkF zs2 o)) := exa.dK hp1 hTB1
          have nXp : TB ≠ p := fun z => by obtain ⟨_, _, _, e⟩ := exa.pot; rw [z, e] at hX; cases hX
          refine ⟨rfl, yes_q (iteT (.inl ⟨TB, _, hX, trivial, fun od => ⟨_, rfl, TB, od, rfl, .inl ⟨_, upd_same, fun D2 hD2 => ?_⟩⟩⟩))⟩
          have nD : D2 ≠ TB := fun z => by rw [z, upd_same] at hD2; cases hD2
          have potL : Pot (upd Hb TB (.frz od (.dK (dkF zs2 o)))) p := by obtain ⟨a, b, c, e⟩ := exa.pot; exact ⟨a, b, c, by rw [upd_ne nXp.symm]; exact e⟩
          have nD2p : D2 ≠ p := by obtain ⟨_, _, _, e⟩ := potL; exact (ne_of_none e hD2).symm
          refine lc_it walk_keys (fun j H' => Ex p (upd Hb TB (.frz od (.dK (dkF zs2 o)))) H' ∧ ∃ (f : Str → Int) (ts : List Addr), H' D2 = some (.lst (ts.map V.ref)) ∧ ts.length = j ∧ Paired (fun (t : Addr) (z : Str) => H' t = some (.tup [.str z, .int (f z)])) ts (zs2.take j) ∧ ∀ z ∈ zs2.take j, 1 ≤ f z ∧ f z ≤ 9) ⟨(Ex.refl potL).new hD2, fun _ => 0, [], upd_same, rfl, .nil, fun _ h => (nomatch h)⟩ (fun j H' _ e => e.1.keep _ _ nXp upd_same) (fun j y Hc0 Hc hj e hy => ?_) (fun H6 e => ⟨e.1.keep _ _ nXp upd_same, ?_⟩)
          · obtain ⟨rfl, kk, v, hkk, rfl⟩ := hy
            obtain ⟨exc, f, ts, hDc, lt, pr, fb⟩ := e
            unfold dkF at hkk
            rw [List.getElem?_map] at hkk
            obtain ⟨z, hz, ek⟩ := Option.map_eq_some_iff.mp hkk
            cases ek
            have mz := List.mem_of_getElem? hz
            have bn := po2 z mz
            obtain ⟨a, b, c, hpc⟩ := exc.pot
            refine ⟨rfl, yes_q (iteT ⟨_, rfl, _, rfl, _, rfl, TB, .int (o z), rfl, .inl ⟨_, .inr z, .inr ⟨od, exc.keep _ _ nXp upd_same⟩, rfl, (dkF_val nd2 o mz).symm⟩, _, rfl, p, 2, a, b, c, rfl, hpc, by decide, by decide, fun r a' b' c' r0 r2 => ⟨_, _, rfl, rfl, _, _, rfl, two, fun T hT => ?_⟩⟩)⟩
            have bv : 1 ≤ (if o z + r < 9 then o z + r else 9) ∧ (if o z + r < 9 then o z + r else 9) ≤ 9 := by split <;> omega
            generalize (if o z + r < 9 then o z + r else 9) = n at bv hT ⊢
            have exd : Ex p Hc (upd Hc p (potO a' b' c')) := Ex.turn
            have hDd := exd.refs exc.pot hDc
            have exe := exd.new (o := .tup [.str z, .int n]) hT
            have hDe := same_new (o := .tup [.str z, .int n]) hT _ _ hDd
            have uT : upd (upd Hc p (potO a' b' c')) T (.tup [.str z, .int n]) T = some (.tup [.str z, .int n]) := upd_same
            have tkn : zs2.take (j + 1) = zs2.take j ++ [z] := by rw [List.take_add_one, hz]; rfl
            have nz : z ∉ zs2.take j := fun q => by
              have h := nd2
              rw [← List.take_append_drop (j + 1) zs2, tkn, List.append_assoc, List.nodup_append] at h
              exact h.2.2 z q z (List.mem_append_left _ List.mem_cons_self) rfl
            refine ⟨ts.map V.ref, hDe, ?_, (exc.trans exe).put hD2 nD2p, putG f z n, ts ++ [T], by rw [upd_same, List.map_append]; rfl, by rw [List.length_append, lt]; rfl, ?_, fun y hy => ?_⟩
            · rw [List.length_map, lt]
              have : j < (dkF zs2 o).length := hj
              simp only [dkF, List.length_map] at this
              omega
            · rw [tkn]
              have nbD : ∀ {b : Addr} {xs : List V}, upd (upd Hc p (potO a' b' c')) T (.tup [.str z, .int n]) b = some (.tup xs) → b ≠ D2 := fun h q => by rw [q, hDe] at h; cases h
              refine paired_app (pair_congr (f := f) (fun y hy => (putG_ne fun q => nz (by rw [← q]; exact hy)).symm) (L2.Paired.mapP pr fun b y h => ?_)) (.cons (by rw [upd_ne (nbD uT), putG_at]; exact uT) .nil)
              have := exe.tup exc.pot h
              rw [upd_ne (nbD this)]; exact this
            · rw [tkn] at hy
              rcases List.mem_append.mp hy with hy | hy
              · rw [putG_ne (fun q => nz (by rw [← q]; exact hy))]; exact fb y hy
              · rw [List.mem_singleton.mp hy, putG_at]; exact bv
          obtain ⟨ex6, f, ts, hD6, lt, pr, fb⟩ := e
          have lk : (dkF zs2 o).length = zs2.length := by simp [dkF]
          rw [lk, List.take_length] at pr fb
          have exe : Ex p Hb (upd H6 TB (.dK (dkF zs2 o))) := exUn ex6 hX nXp
          have hDe : upd H6 TB (.dK (dkF zs2 o)) D2 = some (.lst (ts.map V.ref)) := by rw [upd_ne nD]; exact hD6
          have pre : Paired (fun t (kv : Key × V) => SqT K (upd H6 TB (.dK (dkF zs2 o))) t [kV kv.1, kv.2]) ts (dkF zs2 f) := paired_map_r (fun z => ((Sum.inr z : Key), V.int (f z))) (L2.Paired.mapP pr fun t z h => .inl (.inl (by rw [upd_ne (fun q => by rw [q, ex6.keep _ _ nXp upd_same] at h; cases h)]; exact h)))
          generalize upd H6 TB (.dK (dkF zs2 o)) = He at exe hDe pre ⊢
          refine ⟨D2, ts, _, rfl, SqL.of hDe, pre, fun q hq => ?_⟩
          rw [show mergeK [] (dkF zs2 f) = dkF zs2 f from mergeK_nodup (more := dkF zs2 f) [] (dkF_nodup nd2 f)]
          have hDq := same_new (o := .dK (dkF zs2 f)) hq _ _ (exe.refs exa.pot (bs := [q0]) hDa)
          have nqD : q ≠ Dd := fun z => by rw [z, exe.refs exa.pot (bs := [q0]) hDa] at hq; cases hq
          have hqe : upd (upd He q (.dK (dkF zs2 f))) Dd (.lst ([V.ref q0] ++ [.ref q])) q = some (.dK (dkF zs2 f)) := by rw [upd_ne nqD, upd_same]
          have j0 := (k0 (by decide)).1
          have w0 : upd (upd He q (.dK (dkF zs2 f))) Dd (.lst ([V.ref q0] ++ [.ref q])) q0 = some (.dK (dkF zs f0)) := by
            rw [upd_ne (fun z => by rw [z, hDa] at j0; cases j0)]
            exact same_new hq _ _ (exe.dK exa.pot j0)
          exact ⟨_, hDq, (by show 1 < sizeLine; omega), ((exa.trans exe).new hq).put hDd nDdp, q0, q, 0, f0, f, [], upd_same, fun _ => ⟨w0, (k0 (by decide)).2⟩, fun _ => ⟨hqe, fb⟩, fun z => absurd z (by decide)⟩
        | 2, _, hy =>
          cases hy
          have hDa : Hb Dd = some (.lst [V.ref q0, .ref q1]) := hDa0
          have hX : Hb TS = some (.dT (dtF ps)) := exa.dT hp1 hTS1
          have nXp : TS ≠ p := fun z => by obtain ⟨_, _, _, e⟩ := exa.pot; rw [z, e] at hX; cases hX
          refine ⟨rfl, yes_q (iteT (.inr ⟨TS, _, hX, trivial, fun od => ⟨_, rfl, TS, od, rfl, .inr ⟨_, upd_same, fun D2 hD2 => ?_⟩⟩⟩))⟩
          have nD : D2 ≠ TS := fun z => by rw [z, upd_same] at hD2; cases hD2
          have potL : Pot (upd Hb TS (.frz od (.dT (dtF ps)))) p := by obtain ⟨a, b, c, e⟩ := exa.pot; exact ⟨a, b, c, by rw [upd_ne nXp.symm]; exact e⟩
          have nD2p : D2 ≠ p := by obtain ⟨_, _, _, e⟩ := potL; exact (ne_of_none e hD2).symm
          refine lc_it walk_keysT (fun j H' => Ex p (upd Hb TS (.frz od (.dT (dtF ps)))) H' ∧ ∃ (rs : List SP2) (ts : List Addr), H' D2 = some (.lst (ts.map V.ref)) ∧ ts.length = j ∧ PairsT H' ts (dtF rs) ∧ rs.map Prod.fst = (ps.take j).map Prod.fst ∧ ∀ e ∈ rs, 1 ≤ e.2 ∧ e.2 ≤ 9) ⟨(Ex.refl potL).new hD2, [], [], upd_same, rfl, .nil, by rw [List.take_zero], fun _ h => (nomatch h)⟩ (fun j H' _ e => e.1.keep _ _ nXp upd_same) (fun j y Hc0 Hc hj e hy => ?_) (fun H6 e => ⟨e.1.keep _ _ nXp upd_same, ?_⟩)
          · obtain ⟨rfl, kk, v, bk, hkk, rfl, hbk⟩ := hy
            obtain ⟨exc, rs, ts, hDc, lt, pr, keys, fb⟩ := e
            unfold dtF at hkk
            rw [List.getElem?_map] at hkk
            obtain ⟨⟨⟨u1, u2⟩, m⟩, hz, ek⟩ := Option.map_eq_some_iff.mp hkk
            cases ek
            have mz := List.mem_of_getElem? hz
            have bn := (N.sp _ mz).2.2.2
            have bn1 : 1 ≤ m := bn.1
            have hbk' : Hc bk = some (.tup [.str u1, .str u2]) := hbk
            obtain ⟨a, b, c, hpc⟩ := exc.pot
            refine ⟨rfl, yes_q (iteT ⟨_, rfl, _, rfl, _, rfl, TS, .int m, rfl, .inr ⟨_, [.inr u1, .inr u2], bk, .inr ⟨od, exc.keep _ _ nXp upd_same⟩, rfl, hbk', (dtF_val N.sn mz).symm⟩, _, rfl, p, 2, a, b, c, rfl, hpc, by decide, by decide, fun r a' b' c' r0 r2 => ⟨_, _, rfl, rfl, _, _, rfl, two, fun T hT => ?_⟩⟩)⟩
            have bv : 1 ≤ (if m + r < 9 then m + r else 9) ∧ (if m + r < 9 then m + r else 9) ≤ 9 := by split <;> omega
            generalize (if m + r < 9 then m + r else 9) = n at bv hT ⊢
            have exd : Ex p Hc (upd Hc p (potO a' b' c')) := Ex.turn
            have hDd := exd.refs exc.pot hDc
            have exe := exd.new (o := .tup [.ref bk, .int n]) hT
            have hDe := same_new (o := .tup [.ref bk, .int n]) hT _ _ hDd
            have t3 := TK.put (ys := ts.map V.ref ++ [V.ref T]) hDe
            refine ⟨ts.map V.ref, hDe, ?_, (exc.trans exe).put hD2 nD2p, rs ++ [((u1, u2), n)], ts ++ [T], by rw [upd_same, List.map_append]; rfl, by rw [List.length_append, lt]; rfl, ?_, ?_, fun e he => ?_⟩
            · rw [List.length_map, lt]
              have : j < (dtF ps).length := hj
              simp only [dtF, List.length_map] at this
              omega
            · have := (pr.tk ((exe.tk exc.pot).trans t3)).snoc (k := [.inr u1, .inr u2]) (t3 _ _ upd_same) (t3 _ _ (exe.tup exc.pot hbk'))
              unfold dtF at this ⊢
              rw [List.map_append]
              exact this
            · rw [List.map_append, keys, List.take_add_one, hz, List.map_append]; rfl
            · rcases List.mem_append.mp he with he | he
              · exact fb e he
              · rw [List.mem_singleton.mp he]; exact bv
          obtain ⟨ex6, rs, ts, hD6, lt, pr, keys, fb⟩ := e
          have lk : (dtF ps).length = ps.length := by simp [dtF]
          rw [lk, List.take_length] at keys
          have exe : Ex p Hb (upd H6 TS (.dT (dtF ps))) := exUn ex6 hX nXp
          have hDe : upd H6 TS (.dT (dtF ps)) D2 = some (.lst (ts.map V.ref)) := by rw [upd_ne nD]; exact hD6
          have pre : PairsT (upd H6 TS (.dT (dtF ps))) ts (dtF rs) := pr.tk fun b xs h => by rw [upd_ne (fun q => by rw [q, ex6.keep _ _ nXp upd_same] at h; cases h)]; exact h
          generalize upd H6 TS (.dT (dtF ps)) = He at exe hDe pre ⊢
          refine ⟨D2, ts, _, rfl, hDe, pre, dtF_nodup (by rw [keys]; exact N.sn), fun q hq => ?_⟩
          have hDq := same_new (o := .dT (dtF rs)) hq _ _ (exe.refs exa.pot (bs := [q0, q1]) hDa)
          have nqD : q ≠ Dd := fun z => by rw [z, exe.refs exa.pot (bs := [q0, q1]) hDa] at hq; cases hq
          have hqe : upd (upd He q (.dT (dtF rs))) Dd (.lst ([V.ref q0, .ref q1] ++ [.ref q])) q = some (.dT (dtF rs)) := by rw [upd_ne nqD, upd_same]
          have j0 := (k0 (by decide)).1
          have w0 : upd (upd He q (.dT (dtF rs))) Dd (.lst ([V.ref q0, .ref q1] ++ [.ref q])) q0 = some (.dK (dkF zs f0)) := by
            rw [upd_ne (fun z => by rw [z, hDa] at j0; cases j0)]
            exact same_new hq _ _ (exe.dK exa.pot j0)
          have j1 := (k1 (by decide)).1
          have w1 : upd (upd He q (.dT (dtF rs))) Dd (.lst ([V.ref q0, .ref q1] ++ [.ref q])) q1 = some (.dK (dkF zs2 f1)) := by
            rw [upd_ne (fun z => by rw [z, hDa] at j1; cases j1)]
            exact same_new hq _ _ (exe.dK exa.pot j1)
          exact ⟨_, hDq, (by show 2 < sizeLine; omega), ((exa.trans exe).new hq).put hDd nDdp, q0, q1, q, f0, f1, rs, upd_same, fun _ => ⟨w0, (k0 (by decide)).2⟩, fun _ => ⟨w1, (k1 (by decide)).2⟩, fun _ => ⟨hqe, keys, fb⟩⟩
        | i + 3, hi, _ => exact absurd hi (by simp)
      obtain ⟨ex6, q0, q1, q2, f0, f1, rs, hD6, k0, k1, k2⟩ := e
      obtain ⟨w0, b0⟩ := k0 (show 0 < 3 by decide)
      obtain ⟨w1, b1⟩ := k1 (show 1 < 3 by decide)
      obtain ⟨w2, b2, b3⟩ := k2 (show 2 < 3 by decide)
      have inP : ∀ e ∈ rs, e.1.1 ∈ zs ∧ e.1.2 ∈ zs ∧ e.1.1 ≠ e.1.2 := fun e he => by
        have hk : e.1 ∈ ps.map Prod.fst := by rw [← b2]; exact List.mem_map.mpr ⟨e, he, rfl⟩
        obtain ⟨e', he', ee⟩ := List.mem_map.mp hk
        have := N.sp e' he'
        rw [ee] at this
        exact ⟨this.1, this.2.1, this.2.2.1⟩
      have NR : PrN zs zs2 f0 f1 rs := ⟨N.sg, N.nd, N.pos, N.le, N.pm, b0, fun z hz => b1 z (N.pm.mem_iff.mpr hz), by rw [b2]; exact N.sn, fun e he => ⟨(inP e he).1, (inP e he).2.1, (inP e he).2.2, (b3 e he).1, by have := (b3 e he).2; omega⟩, by have := congrArg List.length b2; simp only [List.length_map] at this; omega⟩
      exact k Dd zs zs2 f0 f1 rs _ (ex1.trans ex6) ⟨q0, q1, q2, hD6, w0, w1, w2⟩ NR
    have big : 1000 < sizeLine := by decide
    -- the prices
    refine ⟨_, rfl, _, rfl, p, rfl, hp, fun l zs1 H1 ok fl ex1 hl => ?_⟩
    have nlp : l ≠ p := by obtain ⟨_, _, _, e⟩ := hp; exact (ne_of_none e fl).symm
    refine ⟨p, l, zs1, rfl, ex1.pot, nlp, hl, ok, fun t zs zs2 g o ps H2 ex2 RC2 N => ?_⟩
    have ex02 := ex1.trans ex2
    refine ⟨_, rfl, t, zs, zs2, g, o, ps, rfl, RC2, N, fun x H3 e3 PS3 => ?_⟩
    refine ⟨_, rfl, t, zs, zs2, g, o, ps, rfl, RC2.same e3, N, fun d ys c cps H4 e4 C pyz ascY RD AD ND => ⟨_, _, rfl, ?_⟩⟩
    have ex4 := (ex02.same e3).same e4
    have RC := (RC2.same e3).same e4
    have PS := PS3.same e4
    have l5 := N.le
    clear ex1 ex2 ex02 RC2 PS3 e3 e4 hl fl
    obtain ⟨dx, ws, sl⟩ := PS.slt
    refine ⟨_, rfl, x, dx, ws, rfl, sl, x, zs, zs2, g, o, ps, rfl, PS, N, fun y c1 cp1 H5 e5 C1 A1 N1 PY => ?_⟩
    have ec1 := C1.uniq C
    -- told rightly
    refine ⟨_, rfl, _, rfl, y, d, zs, _, _, cp1, ys, ys, _, _, cps, rfl, PY, RD.same e5, ND, SameRec.clo N.sg pyz A1 AD ec1, fun H6 e6 => ⟨_, rfl, iteF ?_⟩⟩
    have e56 := e5.trans e6
    refine ⟨_, rfl, _, rfl, x, t, zs, g, o, ps, zs, zs2, g, o, ps, rfl, PS.same e56, RC.same e56, N, SameRec.refl, fun H7 e7 => ⟨_, rfl, iteF ?_⟩⟩
    have PY7 := (PY.same e6).same e7
    have e57 := e56.trans e7
    obtain ⟨dy, wy, sly⟩ := PY7.slt
    refine ⟨_, rfl, y, dy, wy, rfl, sly, y, zs, zs, _, _, cp1, rfl, PY7, N1, fun b c2 cp2 H8 e8 C2 A2 hb => ?_⟩
    have hb' : b = true := hb.mpr (SameRec.clo N.sg (List.Perm.refl _) A1 A2 fun u v hu hv => (CloR.again N.sg C1 (List.Perm.refl _) A1 C2 u v hu hv).symm)
    subst hb'
    refine ⟨true, true, rfl, rfl, _, rfl, iteF ?_⟩
    have e58 := e57.trans e8
    have k58 := (e6.trans e7).trans e8
    clear e6 e7 e8 e56 e57 PY7 sly hb A2 C2
    -- closed or not
    have PS8 := PS.same e58
    obtain ⟨dx, ws, sl⟩ := PS8.slt
    refine ⟨_, rfl, x, dx, ws, rfl, sl, x, zs, zs2, g, o, ps, rfl, PS8, N, fun b1 c3 cp3 H9 e9 C3 A3 hb1 => ?_⟩
    have e59 := e58.trans e9
    have k59 := k58.trans e9
    obtain ⟨TA, TB, TS, ht, hTA, hTB, hTS⟩ := RC.same e59
    obtain ⟨DA, DB, DS, hd, hDA, hDB, hDS⟩ := RD.same e59
    refine ⟨_, rfl, _, rfl, t, d, TA, TB, TS, DA, DB, DS, kI zs g, kI zs2 o, kI ys (gC c), kI ys (oC c), kT ps, kT cps, rfl, rfl, SqL.of ht, SqL.of hd, by rw [← dkF_kI]; exact hTA, by rw [← dkF_kI]; exact hTB, by rw [← dtF_kT]; exact hTS, by rw [← dkF_kI]; exact hDA, by rw [← dkF_kI]; exact hDB, by rw [← dtF_kT]; exact hDS, kI_nd N.nd g, kI_nd (N.pm.nodup_iff.mpr N.nd) o, kT_nd N.sn, rfl, ?_⟩
    have bb : b1 = (eqKv (kI zs g) (kI ys (gC c)) && (eqKv (kI zs2 o) (kI ys (oC c)) && eqKv (kT ps) (kT cps))) := by
      have sr := SameRec.clo N.sg pyz A3 AD (C3.uniq C)
      refine bool_of_iff hb1 ((eqPr_iff N ND).trans ⟨fun h => h.trans sr.symm, fun h => h.trans sr⟩)
    rw [← bb, show (!decide (V.bl b1 = V.bl b1)) = false by simp]
    refine ⟨_, rfl, iteF ?_⟩
    have PY9 := PY.same k59
    clear e9 e58 PS8 sl hb1 A3 C3 hTA hTB hTS ht hDA hDB hDS hd
    obtain ⟨dy, wy, sly⟩ := PY9.slt
    refine ⟨_, rfl, y, dy, wy, rfl, sly, y, zs, zs, _, _, cp1, rfl, PY9, N1, fun y4 c4 cp4 H10 e10 C4 A4 N4 PY4 => ⟨_, rfl, ?_⟩⟩
    obtain ⟨da, ya, qa, db, yb, qb, wa, wb, sa, sb, pa, pb, eqt⟩ := eq_true PY4 (PY9.same e10) (SameRec.clo N.sg (List.Perm.refl _) A4 A1 (CloR.again N.sg C1 (List.Perm.refl _) A1 C4))
    refine ⟨y4, da, wa, .ref Cp, rfl, sa, .inr (.inr ⟨y, Cp, db, wb, rfl, sb, rfl⟩), PC.pd.nfp, y4, da, ya, ya, _, _, qa, .ref y, rfl, pa, .inl ⟨y, db, _, _, _, _, _, rfl, pb, _, rfl, ?_⟩⟩
    rw [eqt]
    refine ⟨_, rfl, iteF ?_⟩
    have e510 := e59.trans e10
    have k510 := k59.trans e10
    clear e10 eqt pa pb sa sb C4 A4 N4 PY4 PY9 sly
    -- the least price
    obtain ⟨dy, yy, qy, hPy, Ny, pmy, _, pqy, _⟩ := PY.same k510
    obtain ⟨wy, sly⟩ := hPy.inst
    refine ⟨_, rfl, y, dy, wy, rfl, sly, y, dy, yy, yy, _, _, qy, rfl, hPy, Ny, fun m1 H11 e11 hm1 hle1 => ?_⟩
    obtain ⟨dx, yx, qx, hPx, Nx, pmx, _, pqx, _⟩ := PS.same (e510.trans e11)
    obtain ⟨wx, slx⟩ := hPx.inst
    refine ⟨_, rfl, x, dx, wx, rfl, slx, x, dx, yx, yx, g, o, qx, rfl, hPx, Nx, fun m2 H12 e12 hm2 hle2 => ⟨rfl, ?_⟩⟩
    have mm : m1 = m2 := CloR.least N C1 A1 ((allN_perm pmx pqx _).mp hm2) (fun n hn => hle2 n ((allN_perm pmx pqx n).mpr hn)) ((allN_perm pmy pqy _).mp hm1) (fun n hn => hle1 n ((allN_perm pmy pqy n).mpr hn))
    subst mm
    rw [show (!decide (V.int m1 = V.int m1)) = false by simp]
    refine ⟨_, rfl, iteF ?_⟩
    have E12 := (e510.trans e11).trans e12
    have K12 := (k510.trans e11).trans e12
    have PS12 := PS.same E12
    have PY12 := PY.same K12
    have RD12 := RD.same E12
    have RC12 := RC.same E12
    have ex12 := ex4.same E12
    clear hm1 hle1 hm2 hle2 hPy hPx sly slx e11 e12 e510 e59
    -- one price replaced by a closed one
    refine ⟨_, rfl, d, ys, ys, _, _, cps, rfl, RD12, ND, fun L ts H13 e13 hL hK => ⟨L, rfl, ⟨_, SqL.of hL⟩, for_it walk_list (fun i σ H' => (∃ o5 o6, σ = [some (.ref p), some (.ref t), some (.ref x), some (.ref d), some (.ref y), o5, o6, none, none, none, none, none, none]) ∧ Same H13 H') ⟨⟨_, _, rfl⟩, Same.refl _⟩ (fun i σ H' _ e => SqL.of (e.2 _ _ hL)) (fun i v σ Ha Hb hi e hv => ?_) (fun σ H14 e => ?_)⟩⟩
    · obtain ⟨rfl, hv⟩ := hv
      obtain ⟨⟨o5, o6, rfl⟩, ea⟩ := e
      rw [List.getElem?_map] at hv
      obtain ⟨tk, htk, rfl⟩ := Option.map_eq_some_iff.mp hv
      obtain ⟨k, n, h1, h2⟩ := (hK tk (List.mem_of_getElem? htk)).tk (fun b xs h => ea _ _ h)
      have PSa := PS12.same (e13.trans ea)
      have PYa := PY12.same (e13.trans ea)
      obtain ⟨dx, ws, sl⟩ := PSa.slt
      refine ⟨tk, _, rfl, .inl (.inl h1), rfl, _, _, rfl, _, _, rfl, rfl, ?_⟩
      rcases h2 with ⟨z, mz, hk, rfl⟩ | ⟨z, mz, hk, rfl⟩ | ⟨e, me, hk, rfl⟩
      · have mz' := pyz.mem_iff.mp mz
        have bn := ND.pg z mz
        refine ⟨_, rfl, x, dx, ws, rfl, sl, _, rfl, _, rfl, x, k, _, zs, g, o, ps, rfl, PSa, .inl ⟨z, gC c z, .inl (.inl hk), rfl, mz', bn.1, bn.2, fun y5 H14 e14 P5 => ?_⟩⟩
        obtain ⟨d5, w5, sl5⟩ := P5.slt
        refine ⟨y5, d5, w5, rfl, sl5, y5, zs, zs2, (putG g z (gC c z)), o, ps, rfl, P5, (N.setG bn.1 bn.2), fun y6 c6 cp6 H15 e15 C6 A6 N6 P6 => ⟨_, rfl, ?_⟩⟩
        have ec6 : ∀ u v, InL (codesOf zs) u → InL (codesOf zs) v → c6 u v = c1 u v := fun u v hu hv => (C6.uniq (CloR.putG N C mz') u v hu hv).trans (ec1 u v hu hv).symm
        obtain ⟨da, ya, qa, db, yb, qb, wa, wb, sa, sb, pa, pb, eqt⟩ := eq_true P6 (((PYa.same e14).same e15)) (SameRec.clo N.sg (List.Perm.refl _) A6 A1 ec6)
        refine ⟨y6, da, wa, .ref Cp, rfl, sa, .inr (.inr ⟨y, Cp, db, wb, rfl, sb, rfl⟩), PC.pd.nfp, y6, da, ya, ya, _, _, qa, .ref y, rfl, pa, .inl ⟨y, db, _, _, _, _, _, rfl, pb, _, rfl, ?_⟩⟩
        rw [eqt]
        exact ⟨_, rfl, iteF ⟨⟨_, _, rfl⟩, (ea.trans e14).trans e15⟩⟩

      · have mz' := pyz.mem_iff.mp mz
        have bn := ND.po z mz
        refine ⟨_, rfl, x, dx, ws, rfl, sl, _, rfl, _, rfl, x, k, _, zs, g, o, ps, rfl, PSa, .inr (.inl ⟨z, oC c z, .inl (.inl hk), rfl, mz', bn.1, bn.2, fun y5 H14 e14 P5 => ?_⟩)⟩
        obtain ⟨d5, w5, sl5⟩ := P5.slt
        refine ⟨y5, d5, w5, rfl, sl5, y5, zs, zs2, g, (putG o z (oC c z)), ps, rfl, P5, (N.setO bn.1 bn.2), fun y6 c6 cp6 H15 e15 C6 A6 N6 P6 => ⟨_, rfl, ?_⟩⟩
        have ec6 : ∀ u v, InL (codesOf zs) u → InL (codesOf zs) v → c6 u v = c1 u v := fun u v hu hv => (C6.uniq (CloR.putO N C mz') u v hu hv).trans (ec1 u v hu hv).symm
        obtain ⟨da, ya, qa, db, yb, qb, wa, wb, sa, sb, pa, pb, eqt⟩ := eq_true P6 (((PYa.same e14).same e15)) (SameRec.clo N.sg (List.Perm.refl _) A6 A1 ec6)
        refine ⟨y6, da, wa, .ref Cp, rfl, sa, .inr (.inr ⟨y, Cp, db, wb, rfl, sb, rfl⟩), PC.pd.nfp, y6, da, ya, ya, _, _, qa, .ref y, rfl, pa, .inl ⟨y, db, _, _, _, _, _, rfl, pb, _, rfl, ?_⟩⟩
        rw [eqt]
        exact ⟨_, rfl, iteF ⟨⟨_, _, rfl⟩, (ea.trans e14).trans e15⟩⟩

      · obtain ⟨m1, m2, m3, m4, m5⟩ := ND.sp e me
        have ma := pyz.mem_iff.mp m1
        have mb := pyz.mem_iff.mp m2
        have en : e.2 = sC c e.1.1 e.1.2 := ((AD.iff e).mp me).2.2.2
        rw [en] at m4 m5 ⊢
        refine ⟨_, rfl, x, dx, ws, rfl, sl, _, rfl, _, rfl, x, k, _, zs, g, o, ps, rfl, PSa, .inr (.inr (.inl ⟨e.1.1, e.1.2, sC c e.1.1 e.1.2, .inl (.inl hk), rfl, ma, mb, m3, m4, m5, fun y5 H14 e14 P5 => ?_⟩))⟩
        obtain ⟨d5, w5, sl5⟩ := P5.slt
        refine ⟨y5, d5, w5, rfl, sl5, y5, zs, zs2, g, o, (putP ps (e.1.1, e.1.2) (sC c e.1.1 e.1.2)), rfl, P5, (N.setP ma mb m3 m4 m5), fun y6 c6 cp6 H15 e15 C6 A6 N6 P6 => ⟨_, rfl, ?_⟩⟩
        have ec6 : ∀ u v, InL (codesOf zs) u → InL (codesOf zs) v → c6 u v = c1 u v := fun u v hu hv => (C6.uniq (CloR.putP N C ma mb m3) u v hu hv).trans (ec1 u v hu hv).symm
        obtain ⟨da, ya, qa, db, yb, qb, wa, wb, sa, sb, pa, pb, eqt⟩ := eq_true P6 (((PYa.same e14).same e15)) (SameRec.clo N.sg (List.Perm.refl _) A6 A1 ec6)
        refine ⟨y6, da, wa, .ref Cp, rfl, sa, .inr (.inr ⟨y, Cp, db, wb, rfl, sb, rfl⟩), PC.pd.nfp, y6, da, ya, ya, _, _, qa, .ref y, rfl, pa, .inl ⟨y, db, _, _, _, _, _, rfl, pb, _, rfl, ?_⟩⟩
        rw [eqt]
        exact ⟨_, rfl, iteF ⟨⟨_, _, rfl⟩, (ea.trans e14).trans e15⟩⟩

    obtain ⟨⟨o5, o6, rfl⟩, e14⟩ := e
    have e124 := e13.trans e14
    have PS14 := PS12.same e124
    have PY14 := PY12.same e124
    have RC14 := RC12.same e124
    have RD14 := RD12.same e124
    have ex14 := ex12.same e124
    clear e13 e14 e124 hL hK PS12 PY12 RC12 RD12 ex12
    -- compared with the closed ones
    obtain ⟨dx, ws, sl⟩ := PS14.slt
    refine ⟨_, rfl, x, dx, ws, rfl, sl, _, rfl, x, y, zs, zs2, g, o, ps, zs, zs, _, _, cp1, rfl, PS14, N, PY14, N1, fun b7 ca cb H15 e15 Ca Cb hb7 => ?_⟩
    have ecb := CloR.again N.sg C1 (List.Perm.refl _) A1 Cb
    have eca : ∀ u v, InL (codesOf zs) u → InL (codesOf zs) v → ca u v = cb u v := fun u v hu hv => (Ca.uniq C1 u v hu hv).trans (ecb u v hu hv).symm
    have hb7' : b7 = true := hb7.mpr (Below.refl N.sg eca)
    subst hb7'
    refine ⟨_, rfl, iteF ?_⟩
    have PS15 := PS14.same e15
    have PY15 := PY14.same e15
    obtain ⟨dy, wy, sly⟩ := PY15.slt
    refine ⟨_, rfl, y, dy, wy, rfl, sly, _, rfl, y, x, zs, zs, _, _, cp1, zs, zs2, g, o, ps, rfl, PY15, N1, PS15, N, fun b8 cb2 ca2 H16 e16 Cb2 Ca2 hb8 => ?_⟩
    have ecb2 := CloR.again N.sg C1 (List.Perm.refl _) A1 Cb2
    have hb8' : b8 = true := hb8.mpr (Below.refl N.sg fun u v hu hv => (ecb2 u v hu hv).trans (Ca2.uniq C1 u v hu hv).symm)
    subst hb8'
    refine ⟨_, rfl, iteF ?_⟩
    have e146 := e15.trans e16
    refine ⟨_, rfl, _, rfl, _, rfl, x, t, d, zs, zs2, g, o, ps, ys, c, cps, rfl, PS14.same e146, RC14.same e146, N, C, pyz, RD14.same e146, AD, ND, fun H17 e17 => ⟨_, rfl, iteF ?_⟩⟩
    have e147 := e146.trans e17
    have PS17 := PS14.same e147
    have RC17 := RC14.same e147
    have RD17 := RD14.same e147
    have ex17 := ex14.same e147
    clear e15 e16 e17 e146 e147 PS14 PY14 RC14 RD14 ex14 hb7 hb8 Ca Cb Ca2 Cb2 PS15 PY15 sl sly
    -- other prices
    obtain ⟨TA, TB, TS, ht, hTA, hTB, hTS⟩ := id RC17
    refine ⟨_, rfl, t, _, _, .ref TA, rfl, rfl, SqL.of ht, rfl, TA, _, zs, rfl, .inl hTA, dkF_keys zs g, by omega, fun qs q hqs hso hq => ?_⟩
    have nqp : q ≠ p := by obtain ⟨_, _, _, e⟩ := ex17.pot; exact (ne_of_none e hq).symm
    have okq : SgnOk qs := ⟨sorted_sL (fun z hz => N.sg z (hqs.mem_iff.mp hz)) (hqs.nodup_iff.mpr N.nd) hso, fun z hz => N.sg z (hqs.mem_iff.mp hz), by rw [hqs.length_eq]; exact N.pos, by rw [hqs.length_eq]; exact N.le⟩
    have e18 := same_new (o := .lst (qs.map V.str)) hq
    have u18 : upd H17 q (.lst (qs.map V.str)) q = some (.lst (strsV qs)) := upd_same
    generalize upd H17 q (.lst (qs.map V.str)) = H18 at e18 u18 ⊢
    have ex18 := ex17.same e18
    have PS18 := PS17.same e18
    have RC18 := RC17.same e18
    have RD18 := RD17.same e18
    clear ht hTA hTB hTS PS17 RC17 RD17 hq e18
    refine ⟨_, rfl, p, q, qs, rfl, ex18.pot, rfl, u18, nqp, okq, fun l2 zs5 H19 ok5 ex19 hl5 nl5 => ?_⟩
    refine ⟨p, l2, zs5, rfl, ex19.pot, nl5, hl5, ok5, fun t2 zs3 zs4 g2 o2 ps2 H20 ex20 RC2 N2 => ?_⟩
    have exA := ex19.trans ex20
    have ex20' := ex18.trans exA
    refine ⟨p, t, t2, x, d, y, q, o5, o6, zs, zs2, zs3, zs4, g, o, g2, o2, ps, ps2, rfl, ex20'.pot, RC18.ex exA ex18.pot, N, RC2, N2, fun t3 zs5 zs6 g3 o3 ps3 H21 ex21 RC3 N3 => ?_⟩
    have exB := exA.trans ex21
    have PS21 := PS18.ex exB ex18.pot
    have RD21 := RD18.ex exB ex18.pot
    have ex21' := ex18.trans exB
    clear RC2 N2 ex19 ex20 ex20' exA hl5 PS18 RC18 RD18 exB
    refine ⟨_, rfl, t3, zs5, zs6, g3, o3, ps3, rfl, RC3, N3, fun x2 H22 e22 P2 => ⟨_, rfl, t3, zs5, zs6, g3, o3, ps3, rfl, RC3.same e22, N3, fun d2 ys2 c2 cps2 H23 e23 C2 pyz2 _ RD2 AD2 ND2 => ⟨_, _, rfl, ?_⟩⟩⟩
    have e213 := e22.trans e23
    have PS23 := PS21.same e213
    have RD23 := RD21.same e213
    have P23 := P2.same e23
    have ex23 := ex21'.same e213
    clear e22 e213 PS21 RD21 P2 RC3 ex21'
    obtain ⟨dx, ws, sl⟩ := PS23.slt
    refine ⟨_, rfl, x, dx, ws, rfl, sl, _, rfl, x, x2, zs, zs2, g, o, ps, zs5, zs6, g3, o3, ps3, rfl, PS23, N, P23, N3, fun b9 ca cb H24 e24 Ca Cb hb9 => ⟨_, rfl, _, rfl, d, d2, ys, ys2, c, c2, cps, cps2, rfl, RD23.same e24, AD, ND, RD2.same e24, AD2, ND2, fun b9' H25 e25 hb9' => ⟨rfl, ?_⟩⟩⟩
    have b99 : b9 = b9' := bool_of_iff hb9 (hb9'.trans (Below.congr N.sg N3.sg pyz pyz2 (Ca.uniq C) (Cb.uniq C2)).symm)
    subst b99
    rw [show (!decide (V.bl b9 = V.bl b9)) = false by simp]
    refine ⟨_, rfl, iteF ?_⟩
    have e235 := e24.trans e25
    have P25 := P23.same e235
    obtain ⟨dz, wz, slz⟩ := P25.slt
    refine ⟨_, rfl, x2, dz, wz, rfl, slz, _, rfl, x2, x, zs5, zs6, g3, o3, ps3, zs, zs2, g, o, ps, rfl, P25, N3, PS23.same e235, N, fun b10 ca2 cb2 H26 e26 Ca2 Cb2 hb10 => ⟨_, rfl, _, rfl, d2, d, ys2, ys, c2, c, cps2, cps, rfl, RD2.same (e235.trans e26), AD2, ND2, RD23.same (e235.trans e26), AD, ND, fun b10' H27 e27 hb10' => ⟨rfl, ?_⟩⟩⟩
    have b00 : b10 = b10' := bool_of_iff hb10 (hb10'.trans (Below.congr N3.sg N.sg pyz2 pyz (Ca2.uniq C2) (Cb2.uniq C)).symm)
    subst b00
    rw [show (!decide (V.bl b10 = V.bl b10)) = false by simp]
    refine ⟨_, rfl, iteF ?_⟩
    have e237 := (e235.trans e26).trans e27
    have PS27 := PS23.same e237
    obtain ⟨dx, ws, sl⟩ := PS27.slt
    refine ⟨_, rfl, x, dx, ws, rfl, sl, x, zs, zs2, g, o, ps, rfl, PS27, N, fun y9 c9 cp9 H28 e28 C9 A9 N9 P9 => ?_⟩
    exact ⟨_, rfl, y9, d, zs, _, _, cp9, ys, ys, _, _, cps, rfl, P9, RD23.same (e237.trans e28), ND, SameRec.clo N.sg pyz A9 AD (C9.uniq C), fun H29 e29 => hQ _ (((ex23.same e237).same e28).same e29)⟩
end
end MN
/-! plain law of the two written prices of k03 -/
namespace MN
open PySem PySem.Spec PyProof.Rows L2
def tabC (l : List ((Nd × Nd) × Int)) : Nd → Nd → Int := fun x y => if x = y then 0 else (l.lookup (x, y)).getD 0
theorem tabC_self (l : List ((Nd × Nd) × Int)) (x : Nd) : tabC l x x = 0 := if_pos rfl
/-- whether costs are closed ones -/
def cloB (L : List Nat) (r : Nd → Nd → Option Int) (c : Nd → Nd → Int) : Bool := (ndOf L).all fun x => (ndOf L).all fun y =>
  (decide (x = y) || (decide (1 ≤ c x y) && ((ndOf L).any fun z => !decide (z = y) && (match r z y with | some p => decide (c x y = c x z + p) | none => false)))) &&
  ((match r x y with | some p => decide (c x y ≤ p) | none => true) && (ndOf L).all fun z => decide (c x z ≤ c x y + c y z))
theorem cloB_ok {L : List Nat} {r : Nd → Nd → Option Int} {c : Nd → Nd → Int} (hz : ∀ x, c x x = 0) (h : cloB L r c = true) : Clo L r c := by
  have at_ : ∀ x y, InL L x → InL L y → (decide (x = y) || (decide (1 ≤ c x y) && ((ndOf L).any fun z => !decide (z = y) && (match r z y with | some p => decide (c x y = c x z + p) | none => false)))) = true ∧ (match r x y with | some p => decide (c x y ≤ p) | none => true) = true ∧ (ndOf L).all (fun z => decide (c x z ≤ c x y + c y z)) = true := fun x y hx hy => by
    have h1 := List.all_eq_true.mp (List.all_eq_true.mp h x (mem_nd.mpr hx)) y (mem_nd.mpr hy)
    rw [Bool.and_eq_true, Bool.and_eq_true] at h1
    exact h1
  refine ⟨hz, fun x y hx hy n => ?_, fun x y z hx hy hz => ?_, fun x y p hx hy e => ?_, fun x y hx hy n => ?_⟩
  · have h1 := (at_ x y hx hy).1
    rw [decide_eq_false n, Bool.false_or, Bool.and_eq_true] at h1
    exact of_decide_eq_true h1.1
  · exact of_decide_eq_true (List.all_eq_true.mp (at_ x y hx hy).2.2 z (mem_nd.mpr hz))
  · have h1 := (at_ x y hx hy).2.1
    rw [e] at h1
    exact of_decide_eq_true h1
  · have h1 := (at_ x y hx hy).1
    rw [decide_eq_false n, Bool.false_or, Bool.and_eq_true] at h1
    obtain ⟨z, hz, h2⟩ := List.any_eq_true.mp h1.2
    rw [Bool.and_eq_true] at h2
    cases e : r z y with
    | none => rw [e] at h2; cases h2.2
    | some p =>
      rw [e] at h2
      exact ⟨z, p, mem_nd.mp hz, by simpa using h2.1, e, of_decide_eq_true h2.2⟩
/-- prices by pairs -/
def gOf (l : List (Str × Int)) : Str → Int := fun z => (l.lookup z).getD 1
def prB (zs : List Str) (g o : Str → Int) (ps : List SP2) : Bool := (zs.all fun z => (("abcde" : Str).cps.toList.any fun c => decide (z = ⟨#[c]⟩)) && (decide (1 ≤ g z) && (decide (g z ≤ 9) && (decide (1 ≤ o z) && decide (o z ≤ 9))))) && (decide zs.Nodup && (decide (0 < zs.length) && (decide (zs.length ≤ 5) && (decide (ps.map Prod.fst).Nodup && (decide (ps.length ≤ 100) && ps.all fun x => decide (x.1.1 ∈ zs) && (decide (x.1.2 ∈ zs) && (decide (x.1.1 ≠ x.1.2) && (decide (1 ≤ x.2) && decide (x.2 ≤ 18)))))))))
theorem prB_ok' {zs : List Str} {g o : Str → Int} {ps : List SP2} (h : prB zs g o ps = true) : PrN zs zs g o ps := by
  unfold prB at h
  simp only [Bool.and_eq_true, decide_eq_true_eq, List.all_eq_true, List.any_eq_true] at h
  obtain ⟨h1, h2, h3, h4, h5, h6, h7⟩ := h
  refine ⟨fun z hz => ?_, h2, h3, h4, List.Perm.refl _, fun z hz => ⟨(h1 z hz).2.1, (h1 z hz).2.2.1⟩, fun z hz => ⟨(h1 z hz).2.2.2.1, (h1 z hz).2.2.2.2⟩, h5, fun x hx => h7 x hx, h6⟩
  obtain ⟨c, hc, e⟩ := (h1 z hz).1
  exact ⟨c, hc, e⟩
def allPB (zs : List Str) (h : Str → Str → Int) (qs : List SP2) : Bool := decide (qs.map Prod.fst).Nodup && ((zs.all fun a => zs.all fun b => decide (a = b) || decide (((a, b), h a b) ∈ qs)) && qs.all fun e => decide (e.1.1 ∈ zs) && (decide (e.1.2 ∈ zs) && (decide (e.1.1 ≠ e.1.2) && decide (e.2 = h e.1.1 e.1.2))))
theorem allPB_ok {zs : List Str} {h : Str → Str → Int} {qs : List SP2} (k : allPB zs h qs = true) : AllP zs h qs := by
  unfold allPB at k
  simp only [Bool.and_eq_true, decide_eq_true_eq, List.all_eq_true, Bool.or_eq_true] at k
  obtain ⟨h1, h2, h3⟩ := k
  refine ⟨h1, fun e => ⟨fun he => h3 e he, ?_⟩⟩
  rintro ⟨a, b, n, d⟩
  rcases h2 _ a _ b with q | q
  · exact absurd q n
  · have : e = ((e.1.1, e.1.2), h e.1.1 e.1.2) := Prod.ext rfl d
    rw [this]; exact q
/-! ### the first -/
def zsS : List Str := ["a", "b"]
def gS : Str → Int := gOf [("a", 9), ("b", 1)]
def oS : Str → Int := gOf [("a", 2), ("b", 9)]
def psS : List SP2 := [(("b", "a"), 1)]
def cS : Nd → Nd → Int := tabC [((none, some 97), 2), ((none, some 98), 1), ((some 97, none), 2), ((some 97, some 98), 3), ((some 98, none), 3), ((some 98, some 97), 1)]
def gS2 : Str → Int := gOf [("a", 2), ("b", 1)]
def oS2 : Str → Int := gOf [("a", 2), ("b", 3)]
def psS2 : List SP2 := [(("a", "b"), 3), (("b", "a"), 1)]
theorem prS : PrN zsS zsS gS oS psS := prB_ok' (by decide +kernel)
theorem prS2 : PrN zsS zsS gS2 oS2 psS2 := prB_ok' (by decide +kernel)
theorem cloS : CloR zsS gS oS psS cS := cloB_ok (tabC_self _) (by decide +kernel)
theorem allS : AllP zsS (sC cS) psS2 := allPB_ok (by decide +kernel)
theorem eqS : (∀ z ∈ zsS, gC cS z = gS2 z) ∧ ∀ z ∈ zsS, oC cS z = oS2 z := by decide +kernel
theorem recS {c : Nd → Nd → Int} {cps : List SP2} (C : CloR zsS gS oS psS c) (A : AllP zsS (sC c) cps) : SameRec zsS (gC c) (oC c) cps zsS gS2 oS2 psS2 := by
  have e := C.uniq cloS
  refine ⟨fun _ => Iff.rfl, fun z hz => (gC_congr prS.sg e z hz).trans (eqS.1 z hz), fun z hz => (oC_congr prS.sg e z hz).trans (eqS.2 z hz), fun x => (A.perm2 allS (fun _ => Iff.rfl) (sC_congr prS.sg e)).mem_iff⟩
/-! ### the second -/
def zsN : List Str := ["a", "b", "c", "d", "e"]
def gN : Str → Int := gOf [("a", 1), ("b", 9), ("c", 9), ("d", 9), ("e", 9)]
def oN : Str → Int := gOf [("a", 9), ("b", 9), ("c", 9), ("d", 9), ("e", 1)]
def psN : List SP2 := [(("a", "b"), 1), (("b", "c"), 1), (("c", "d"), 1), (("d", "e"), 1)]
def cN : Nd → Nd → Int := tabC [((none, some 97), 1), ((none, some 98), 2), ((none, some 99), 3), ((none, some 100), 4), ((none, some 101), 5), ((some 97, none), 5), ((some 97, some 98), 1), ((some 97, some 99), 2), ((some 97, some 100), 3), ((some 97, some 101), 4), ((some 98, none), 4), ((some 98, some 97), 5), ((some 98, some 99), 1), ((some 98, some 100), 2), ((some 98, some 101), 3), ((some 99, none), 3), ((some 99, some 97), 4), ((some 99, some 98), 5), ((some 99, some 100), 1), ((some 99, some 101), 2), ((some 100, none), 2), ((some 100, some 97), 3), ((some 100, some 98), 4), ((some 100, some 99), 5), ((some 100, some 101), 1), ((some 101, none), 1), ((some 101, some 97), 2), ((some 101, some 98), 3), ((some 101, some 99), 4), ((some 101, some 100), 5)]
theorem prN : PrN zsN zsN gN oN psN := prB_ok' (by decide +kernel)
theorem cloN : CloR zsN gN oN psN cN := cloB_ok (tabC_self _) (by decide +kernel)
theorem valN {c : Nd → Nd → Int} (C : CloR zsN gN oN psN c) : gC c "e" = 5 ∧ oC c "a" = 5 ∧ sC c "e" "d" = 5 ∧ sC c "a" "e" = 4 := by
  have e := C.uniq cloN
  have ma : ("a" : Str) ∈ zsN := by decide +kernel
  have md : ("d" : Str) ∈ zsN := by decide +kernel
  have me : ("e" : Str) ∈ zsN := by decide +kernel
  rw [gC_congr prN.sg e _ me, oC_congr prN.sg e _ ma, sC_congr prN.sg e _ me _ md (by decide +kernel), sC_congr prN.sg e _ ma _ me (by decide +kernel)]
  decide +kernel
end MN
/-! the law k03 -/
namespace MN
open PySem PySem.Spec PyProof.Rows L2
section
variable {P : Program} {w : World} {K : PySem.W.Frag} {mg : Str → Option Value} {base : Heap} {Cp Cc : Addr}
def spLaw (K : PySem.W.Frag) : Sp := fun vs H Q _ => ∃ (a : Addr) (ns : List Int), vs = [.ref a] ∧ SqL K H a (ns.map V.int) ∧ ns.length ≤ 1000 ∧ ∀ H', Q (.bl true) H'
abbrev N_law : List Str := ["_law_script", "_law_at", "_law_slow", "_law_chain", "_law_told"]
theorem sc_law : FnScope N_law ["_law_script"] (defScope (top 43)) := ⟨rfl, rfl, rfl, by decide +kernel, rfl, by decide +kernel, by decide +kernel⟩
theorem f_law {f : Addr} {fd : FuncData} (F : FunD K "law" "law" (defArgs (top 43)) (defBody (top 43)) (defScope (top 43)) [] [] f fd) (B : Blt mg) (PC : Pr3 K mg Cp Cc) (c_are_prices2 : Cal P w K mg base 3 "are_prices" spAreP2) (c_closed_of : Cal P w K mg base 3 "closed_of" (spClosedOf Cp Cc)) (c_law_filled : Cal P w K mg base 1 "_law_filled" (spFilled K)) (c_law_right03 : CalG P w K mg base 8 "_law_right" spRight03) (c_law_is_told3 : CalG P w K mg base 3 "_law_is_told" (spTold3 Cp)) :
    FnG P w K mg base 9 f fd ["_law_script"] (spLaw K) := by
  obtain ⟨fi, fdi, M, Fi⟩ := PC.pd.ip
  obtain ⟨gm, hM, hFM⟩ := r_pclosed3 (P := P) (w := w) (base := base) PC B c_are_prices2 c_closed_of
  obtain ⟨⟨pp1, pg1, hpp, Fp⟩, ⟨pp2, pg2, hpo, Fo⟩, ⟨pp3, pg3, hpw, Fw⟩⟩ := r_props2 (P := P) (w := w) (base := base) PC.pd B
  refine fnG_of F sc_law (fun vs H Q E h => ?_) (fun cdv A outer s H vs Q E gd hr h => ?_)
  · obtain ⟨_, _, rfl, _⟩ := h; rfl
  · obtain ⟨a, ns, rfl, ha, hns, hQ⟩ := h
    refine ⟨_, (pss_cons (ps_for PassesOwn.never rfl (pi_range1 (by rfl) B.range (pa_cons (pe_callB (call_max2 rfl) (by rfl) B.max (by decide +kernel) (pa_cons pe_int (pa_cons (pe_callB (call_min2 rfl) (by rfl) B.min (by decide +kernel) (pa_cons pe_int (pa_cons (pe_callB call_len_seq (by rfl) B.len (by decide +kernel) (pa_cons (pv 0) pa_nil)) pa_nil))) pa_nil))) pa_nil)) (pg_name (i := 1) sc_law.nd rfl (Or.inl rfl))
        (pss_one (ps_if (pt_not (pt_val (pe_cG c_law_right03 gd hr (by decide) (by rfl) (pa_cons (pe_c c_law_filled hr (by decide) (by rfl) (pa_cons (pv 0) (pa_cons (pv 1) pa_nil))) pa_nil))))
          (pss_one (ps_ret pe_bl))
          pss_nil)))
      (pss_cons (ps_set (i := 2) sc_law.nd rfl (Or.inl rfl) (pe_makeKG M (f_pinit3 (P := P) (w := w) (mg := mg) (base := base) PC.pd.sp Fi B c_are_prices2) (hr.mono (by decide)) (by rfl) PC.pd.gp (kb_pinit Fi) pass0 (pk_cons (pe_disp (pps_cons pe_str pe_int (pps_cons pe_str pe_int pps_nil)) rfl rfl (by decide) (by decide)) (pk_cons (pe_disp (pps_cons pe_str pe_int (pps_cons pe_str pe_int pps_nil)) rfl rfl (by decide) (by decide)) (pk_cons (pe_dispP (.dT []) (.inr rfl) (hu_of hr) (pps_cons (pe_tup (pa_cons pe_str (pa_cons pe_str pa_nil))) pe_int pps_nil) rfl rfl (by decide) (by decide)) pk_nil)))))
      (pss_cons (ps_if (pt_not (pt_val (pe_cG c_law_is_told3 gd hr (by decide) (by rfl) (pa_cons (SlX.pe_methSl0 (E := E0) (pv 2) PC.pd.sp.sc hM hFM (hr.mono (by decide)) pass0) (pa_cons (pe_lst (pa_cons (pe_disp (pps_cons pe_str pe_int (pps_cons pe_str pe_int pps_nil)) rfl rfl (by decide) (by decide)) (pa_cons (pe_disp (pps_cons pe_str pe_int (pps_cons pe_str pe_int pps_nil)) rfl rfl (by decide) (by decide)) (pa_cons (pe_dispP (.dT []) (.inr rfl) (hu_of hr) (pps_cons (pe_tup (pa_cons pe_str (pa_cons pe_str pa_nil))) pe_int (pps_cons (pe_tup (pa_cons pe_str (pa_cons pe_str pa_nil))) pe_int pps_nil)) rfl rfl (by decide) (by decide)) pa_nil)))) pa_nil))))) (pss_one (ps_ret pe_bl)) pss_nil)
      (pss_cons (ps_set (i := 3) sc_law.nd rfl (Or.inl rfl) (pe_makeKG M (f_pinit3 (P := P) (w := w) (mg := mg) (base := base) PC.pd.sp Fi B c_are_prices2) (hr.mono (by decide)) (by rfl) PC.pd.gp (kb_pinit Fi) pass0 (pk_cons (pe_disp (pps_cons pe_str pe_int (pps_cons pe_str pe_int (pps_cons pe_str pe_int (pps_cons pe_str pe_int (pps_cons pe_str pe_int pps_nil))))) rfl rfl (by decide) (by decide)) (pk_cons (pe_disp (pps_cons pe_str pe_int (pps_cons pe_str pe_int (pps_cons pe_str pe_int (pps_cons pe_str pe_int (pps_cons pe_str pe_int pps_nil))))) rfl rfl (by decide) (by decide)) (pk_cons (pe_dispP (.dT []) (.inr rfl) (hu_of hr) (pps_cons (pe_tup (pa_cons pe_str (pa_cons pe_str pa_nil))) pe_int (pps_cons (pe_tup (pa_cons pe_str (pa_cons pe_str pa_nil))) pe_int (pps_cons (pe_tup (pa_cons pe_str (pa_cons pe_str pa_nil))) pe_int (pps_cons (pe_tup (pa_cons pe_str (pa_cons pe_str pa_nil))) pe_int pps_nil)))) rfl rfl (by decide) (by decide)) pk_nil)))))
      (pss_cons (ps_set (i := 4) sc_law.nd rfl (Or.inl rfl) (SlX.pe_methSl0 (E := E0) (pv 3) PC.pd.sp.sc hM hFM (hr.mono (by decide)) pass0))
      (pss_one (ps_ret (pe_cmpR (op_eqD hr.units) (pe_lst (pa_cons (pe_dget (hu_of hr) (SlX.pe_propSl (E := E0) (pv 4) PC.pd.sp.sc hpp.at_ hpp.get hpp.tak hpp.rec_ Fp (hr.mono (by decide)) (fun _ _ _ _ h => h)) pe_str (fun _ _ => rfl)) (pa_cons (pe_dget (hu_of hr) (SlX.pe_propSl (E := E0) (pv 4) PC.pd.sp.sc hpo.at_ hpo.get hpo.tak hpo.rec_ Fo (hr.mono (by decide)) (fun _ _ _ _ h => h)) pe_str (fun _ _ => rfl)) (pa_cons (pe_dget (hu_of hr) (SlX.pe_propSl (E := E0) (pv 4) PC.pd.sp.sc hpw.at_ hpw.get hpw.tak hpw.rec_ Fw (hr.mono (by decide)) (fun _ _ _ _ h => h)) (pe_tup (pa_cons pe_str (pa_cons pe_str pa_nil))) (fun _ _ => rfl)) (pa_cons (pe_dget (hu_of hr) (SlX.pe_propSl (E := E0) (pv 4) PC.pd.sp.sc hpw.at_ hpw.get hpw.tak hpw.rec_ Fw (hr.mono (by decide)) (fun _ _ _ _ h => h)) (pe_tup (pa_cons pe_str (pa_cons pe_str pa_nil))) (fun _ _ => rfl)) pa_nil))))) (pe_lst (pa_cons pe_int (pa_cons pe_int (pa_cons pe_int (pa_cons pe_int pa_nil))))) (nomark _))))))))), ?_⟩
    have two : 2 ≤ sizeLine := by decide
    have three : 3 ≤ sizeLine := by decide
    have four : 4 ≤ sizeLine := by decide
    have big : 1000 < sizeLine := by decide
    refine ⟨_, rfl, a, _, rfl, .inl ha, _, _, rfl, _, _, rfl, _, rfl, ?_, ?_, for_it (walk_range (lo := 0)) (fun i σ H' => SqL K H' a (ns.map V.int) ∧ ∃ o1, σ = [some (.ref a), o1, none, none, none]) ⟨ha, _, rfl⟩ (fun _ _ _ _ _ => trivial) (fun i x σ H1 H1' hi e y => ?_) (fun σ H1 e => ?_)⟩
    · split <;> split <;> omega
    · split <;> split <;> omega
    · obtain ⟨rfl, rfl⟩ := y
      obtain ⟨ha1, o1, rfl⟩ := e
      have ib : i < 1000 := by
        revert hi
        split <;> split <;> omega
      refine ⟨_, rfl, _, rfl, a, _, ns, rfl, ha1, by omega, by omega, fun p H2 hpn s2 hp2 => ?_⟩
      refine ⟨p, rfl, hp2, fun H3 ex => ⟨_, rfl, iteF ⟨?_, _, rfl⟩⟩⟩
      rcases ha1 with (h | ⟨od, h⟩) | h
      · exact .inl (.inl (ex.keep _ _ (ne_of_none h hpn) (s2 _ _ h)))
      · exact .inl (.inr ⟨od, ex.keep _ _ (ne_of_none h hpn) (s2 _ _ h)⟩)
      · exact .inr h
    obtain ⟨_, o1, rfl⟩ := e
    refine fun A1 hA1 => ⟨upd_same, [(.inr "a", .int 9), (.inr "b", .int 1)], rfl, (by show 2 ≤ 15; decide), ?_⟩
    rw [upd_upd, show mergeK [] [((Sum.inr "a" : Key), V.int 9), (.inr "b", .int 1)] = dkF zsS gS by kernel_rfl]
    have eA1 := same_new (o := .dK (dkF zsS gS)) hA1
    have uA1 : upd H1 A1 (.dK (dkF zsS gS)) A1 = some (.dK (dkF zsS gS)) := upd_same
    generalize upd H1 A1 (.dK (dkF zsS gS)) = G1 at eA1 uA1 ⊢
    refine fun B1 hB1 => ⟨upd_same, [(.inr "a", .int 2), (.inr "b", .int 9)], rfl, (by show 2 ≤ 15; decide), ?_⟩
    rw [upd_upd, show mergeK [] [((Sum.inr "a" : Key), V.int 2), (.inr "b", .int 9)] = dkF zsS oS by kernel_rfl]
    have eB1 := same_new (o := .dK (dkF zsS oS)) hB1
    have uB1 : upd G1 B1 (.dK (dkF zsS oS)) B1 = some (.dK (dkF zsS oS)) := upd_same
    generalize upd G1 B1 (.dK (dkF zsS oS)) = G2 at eB1 uB1 ⊢
    refine fun S1 hS1 => ?_
    have eS1 := same_new (o := .dT []) hS1
    have uS1 : upd G2 S1 (.dT []) S1 = some (.dT []) := upd_same
    generalize upd G2 S1 (.dT []) = J0 at eS1 uS1 ⊢
    refine ⟨two, fun S1T0 hS1T0 => ?_⟩
    have eS1T0 := same_new (o := .tup [.str "b", .str "a"]) hS1T0
    have uS1T0 : upd J0 S1T0 (.tup [.str "b", .str "a"]) S1T0 = some (.tup [.str "b", .str "a"]) := upd_same
    generalize upd J0 S1T0 (.tup [.str "b", .str "a"]) = J1 at eS1T0 uS1T0 ⊢
    have sS1 : Same J0 J1 := eS1T0
    have wS1T0 : J1 S1T0 = some (.tup [.str "b", .str "a"]) := uS1T0
    have nS1T0 : S1T0 ≠ S1 := fun z => by rw [z, sS1 _ _ uS1] at wS1T0; cases wS1T0
    have uS10 := sS1 _ _ uS1
    refine ⟨upd J1 S1 (.dT (dtF psS)), .inr ⟨[], [.inr "b", .inr "a"], S1T0, uS10, rfl, wS1T0, (by show 0 < sizeLine; omega), by kernel_rfl⟩, ?_⟩
    have uS11 : upd J1 S1 (.dT (dtF psS)) S1 = some (.dT (dtF psS)) := upd_same
    have kS10 : Same G2 (upd J1 S1 (.dT (dtF psS))) := fun b u z => by rw [upd_ne (ne_of_none z hS1)]; exact (eS1.trans sS1) _ _ z
    generalize upd J1 S1 (.dT (dtF psS)) = J2 at uS11 kS10  ⊢
    refine ⟨rfl, rfl, fun x dx hx hdx nx => ?_⟩
    have nxx : ∀ b u, J2 b = some u → b ≠ x ∧ b ≠ dx := fun b u e => ⟨ne_of_none e hx, ne_of_none e hdx⟩
    have upx : ∀ b u, J2 b = some u → upd (upd J2 dx (.own x)) x (.ins Cp dx []) b = some u := fun b u e => by rw [upd_ne (nxx b u e).1, upd_ne (nxx b u e).2]; exact e
    refine ⟨x, dx, A1, B1, S1, zsS, zsS, gS, oS, psS, rfl, upd_same, by rw [upd_ne nx, upd_same], nx, upx _ _ (kS10 _ _ (eB1 _ _ uA1)), upx _ _ (kS10 _ _ uB1), upx _ _ uS11, prS, fun HX ysx qsx kx hPx Nx pmx ascx pqx srtx => ⟨rfl, ?_⟩⟩
    have Px : PrS Cp HX x zsS gS oS psS := ⟨dx, ysx, qsx, hPx, Nx, pmx, ascx, pqx, srtx⟩
    obtain ⟨wxx, slx⟩ := hPx.inst
    refine ⟨_, rfl, x, dx, wxx, rfl, slx, x, zsS, zsS, gS, oS, psS, rfl, Px, prS, fun y c cps HY eY CY AY NY PY => ?_⟩
    refine fun A2 hA2 => ⟨upd_same, [(.inr "a", .int 2), (.inr "b", .int 1)], rfl, (by show 2 ≤ 15; decide), ?_⟩
    rw [upd_upd, show mergeK [] [((Sum.inr "a" : Key), V.int 2), (.inr "b", .int 1)] = dkF zsS gS2 by kernel_rfl]
    have eA2 := same_new (o := .dK (dkF zsS gS2)) hA2
    have uA2 : upd HY A2 (.dK (dkF zsS gS2)) A2 = some (.dK (dkF zsS gS2)) := upd_same
    generalize upd HY A2 (.dK (dkF zsS gS2)) = L1 at eA2 uA2 ⊢
    refine fun B2 hB2 => ⟨upd_same, [(.inr "a", .int 2), (.inr "b", .int 3)], rfl, (by show 2 ≤ 15; decide), ?_⟩
    rw [upd_upd, show mergeK [] [((Sum.inr "a" : Key), V.int 2), (.inr "b", .int 3)] = dkF zsS oS2 by kernel_rfl]
    have eB2 := same_new (o := .dK (dkF zsS oS2)) hB2
    have uB2 : upd L1 B2 (.dK (dkF zsS oS2)) B2 = some (.dK (dkF zsS oS2)) := upd_same
    generalize upd L1 B2 (.dK (dkF zsS oS2)) = L2h at eB2 uB2 ⊢
    refine fun S2 hS2 => ?_
    have eS2 := same_new (o := .dT []) hS2
    have uS2 : upd L2h S2 (.dT []) S2 = some (.dT []) := upd_same
    generalize upd L2h S2 (.dT []) = M0 at eS2 uS2 ⊢
    refine ⟨two, fun S2T0 hS2T0 => ?_⟩
    have eS2T0 := same_new (o := .tup [.str "a", .str "b"]) hS2T0
    have uS2T0 : upd M0 S2T0 (.tup [.str "a", .str "b"]) S2T0 = some (.tup [.str "a", .str "b"]) := upd_same
    generalize upd M0 S2T0 (.tup [.str "a", .str "b"]) = M1 at eS2T0 uS2T0 ⊢
    refine ⟨two, fun S2T1 hS2T1 => ?_⟩
    have eS2T1 := same_new (o := .tup [.str "b", .str "a"]) hS2T1
    have uS2T1 : upd M1 S2T1 (.tup [.str "b", .str "a"]) S2T1 = some (.tup [.str "b", .str "a"]) := upd_same
    generalize upd M1 S2T1 (.tup [.str "b", .str "a"]) = M2 at eS2T1 uS2T1 ⊢
    have sS2 : Same M0 M2 := (eS2T0).trans eS2T1
    have wS2T0 : M2 S2T0 = some (.tup [.str "a", .str "b"]) := (eS2T1) _ _ uS2T0
    have nS2T0 : S2T0 ≠ S2 := fun z => by rw [z, sS2 _ _ uS2] at wS2T0; cases wS2T0
    have wS2T1 : M2 S2T1 = some (.tup [.str "b", .str "a"]) := uS2T1
    have nS2T1 : S2T1 ≠ S2 := fun z => by rw [z, sS2 _ _ uS2] at wS2T1; cases wS2T1
    have uS20 := sS2 _ _ uS2
    refine ⟨upd M2 S2 (.dT [([.inr "a", .inr "b"], .int 3)]), .inr ⟨[], [.inr "a", .inr "b"], S2T0, uS20, rfl, wS2T0, (by show 0 < sizeLine; omega), by kernel_rfl⟩, ?_⟩
    have uS21 : upd M2 S2 (.dT [([.inr "a", .inr "b"], .int 3)]) S2 = some (.dT [([.inr "a", .inr "b"], .int 3)]) := upd_same
    replace wS2T1 : upd M2 S2 (.dT [([.inr "a", .inr "b"], .int 3)]) S2T1 = some (.tup [.str "b", .str "a"]) := by rw [upd_ne nS2T1]; exact wS2T1
    have kS20 : Same L2h (upd M2 S2 (.dT [([.inr "a", .inr "b"], .int 3)])) := fun b u z => by rw [upd_ne (ne_of_none z hS2)]; exact (eS2.trans sS2) _ _ z
    generalize upd M2 S2 (.dT [([.inr "a", .inr "b"], .int 3)]) = M3 at uS21 kS20 wS2T1 ⊢
    refine ⟨upd M3 S2 (.dT (dtF psS2)), .inr ⟨[([.inr "a", .inr "b"], .int 3)], [.inr "b", .inr "a"], S2T1, uS21, rfl, wS2T1, (by show 1 < sizeLine; omega), by kernel_rfl⟩, ?_⟩
    have uS22 : upd M3 S2 (.dT (dtF psS2)) S2 = some (.dT (dtF psS2)) := upd_same
    have kS21 : Same L2h (upd M3 S2 (.dT (dtF psS2))) := fun b u z => by rw [upd_ne (ne_of_none z hS2)]; exact kS20 _ _ z
    generalize upd M3 S2 (.dT (dtF psS2)) = M4 at uS22 kS21  ⊢
    refine ⟨three, fun tt htt => ?_⟩
    have ett := same_new (o := .lst [.ref A2, .ref B2, .ref S2]) htt
    have eAll := (((eA2.trans eB2).trans kS21).trans ett)
    refine ⟨y, tt, zsS, _, _, cps, zsS, zsS, gS2, oS2, psS2, rfl, PY.same eAll, ⟨A2, B2, S2, upd_same, ett _ _ (kS21 _ _ (eB2 _ _ uA2)), ett _ _ (kS21 _ _ uB2), ett _ _ uS22⟩, prS2, recS CY AY, fun HZ eZ => ⟨_, rfl, iteF ?_⟩⟩
    clear eAll ett
    refine fun A3 hA3 => ⟨upd_same, [(.inr "a", .int 1), (.inr "b", .int 9), (.inr "c", .int 9), (.inr "d", .int 9), (.inr "e", .int 9)], rfl, (by show 5 ≤ 15; decide), ?_⟩
    rw [upd_upd, show mergeK [] [((Sum.inr "a" : Key), V.int 1), (.inr "b", .int 9), (.inr "c", .int 9), (.inr "d", .int 9), (.inr "e", .int 9)] = dkF zsN gN by kernel_rfl]
    have eA3 := same_new (o := .dK (dkF zsN gN)) hA3
    have uA3 : upd HZ A3 (.dK (dkF zsN gN)) A3 = some (.dK (dkF zsN gN)) := upd_same
    generalize upd HZ A3 (.dK (dkF zsN gN)) = Q1 at eA3 uA3 ⊢
    refine fun B3 hB3 => ⟨upd_same, [(.inr "a", .int 9), (.inr "b", .int 9), (.inr "c", .int 9), (.inr "d", .int 9), (.inr "e", .int 1)], rfl, (by show 5 ≤ 15; decide), ?_⟩
    rw [upd_upd, show mergeK [] [((Sum.inr "a" : Key), V.int 9), (.inr "b", .int 9), (.inr "c", .int 9), (.inr "d", .int 9), (.inr "e", .int 1)] = dkF zsN oN by kernel_rfl]
    have eB3 := same_new (o := .dK (dkF zsN oN)) hB3
    have uB3 : upd Q1 B3 (.dK (dkF zsN oN)) B3 = some (.dK (dkF zsN oN)) := upd_same
    generalize upd Q1 B3 (.dK (dkF zsN oN)) = Q2 at eB3 uB3 ⊢
    refine fun S3 hS3 => ?_
    have eS3 := same_new (o := .dT []) hS3
    have uS3 : upd Q2 S3 (.dT []) S3 = some (.dT []) := upd_same
    generalize upd Q2 S3 (.dT []) = R0 at eS3 uS3 ⊢
    refine ⟨two, fun S3T0 hS3T0 => ?_⟩
    have eS3T0 := same_new (o := .tup [.str "a", .str "b"]) hS3T0
    have uS3T0 : upd R0 S3T0 (.tup [.str "a", .str "b"]) S3T0 = some (.tup [.str "a", .str "b"]) := upd_same
    generalize upd R0 S3T0 (.tup [.str "a", .str "b"]) = R1 at eS3T0 uS3T0 ⊢
    refine ⟨two, fun S3T1 hS3T1 => ?_⟩
    have eS3T1 := same_new (o := .tup [.str "b", .str "c"]) hS3T1
    have uS3T1 : upd R1 S3T1 (.tup [.str "b", .str "c"]) S3T1 = some (.tup [.str "b", .str "c"]) := upd_same
    generalize upd R1 S3T1 (.tup [.str "b", .str "c"]) = R2 at eS3T1 uS3T1 ⊢
    refine ⟨two, fun S3T2 hS3T2 => ?_⟩
    have eS3T2 := same_new (o := .tup [.str "c", .str "d"]) hS3T2
    have uS3T2 : upd R2 S3T2 (.tup [.str "c", .str "d"]) S3T2 = some (.tup [.str "c", .str "d"]) := upd_same
    generalize upd R2 S3T2 (.tup [.str "c", .str "d"]) = R3 at eS3T2 uS3T2 ⊢
    refine ⟨two, fun S3T3 hS3T3 => ?_⟩
    have eS3T3 := same_new (o := .tup [.str "d", .str "e"]) hS3T3
    have uS3T3 : upd R3 S3T3 (.tup [.str "d", .str "e"]) S3T3 = some (.tup [.str "d", .str "e"]) := upd_same
    generalize upd R3 S3T3 (.tup [.str "d", .str "e"]) = R4 at eS3T3 uS3T3 ⊢
    have sS3 : Same R0 R4 := (((eS3T0).trans eS3T1).trans eS3T2).trans eS3T3
    have wS3T0 : R4 S3T0 = some (.tup [.str "a", .str "b"]) := (((eS3T1).trans eS3T2).trans eS3T3) _ _ uS3T0
    have nS3T0 : S3T0 ≠ S3 := fun z => by rw [z, sS3 _ _ uS3] at wS3T0; cases wS3T0
    have wS3T1 : R4 S3T1 = some (.tup [.str "b", .str "c"]) := ((eS3T2).trans eS3T3) _ _ uS3T1
    have nS3T1 : S3T1 ≠ S3 := fun z => by rw [z, sS3 _ _ uS3] at wS3T1; cases wS3T1
    have wS3T2 : R4 S3T2 = some (.tup [.str "c", .str "d"]) := (eS3T3) _ _ uS3T2
    have nS3T2 : S3T2 ≠ S3 := fun z => by rw [z, sS3 _ _ uS3] at wS3T2; cases wS3T2
    have wS3T3 : R4 S3T3 = some (.tup [.str "d", .str "e"]) := uS3T3
    have nS3T3 : S3T3 ≠ S3 := fun z => by rw [z, sS3 _ _ uS3] at wS3T3; cases wS3T3
    have uS30 := sS3 _ _ uS3
    refine ⟨upd R4 S3 (.dT [([.inr "a", .inr "b"], .int 1)]), .inr ⟨[], [.inr "a", .inr "b"], S3T0, uS30, rfl, wS3T0, (by show 0 < sizeLine; omega), by kernel_rfl⟩, ?_⟩
    have uS31 : upd R4 S3 (.dT [([.inr "a", .inr "b"], .int 1)]) S3 = some (.dT [([.inr "a", .inr "b"], .int 1)]) := upd_same
    replace wS3T1 : upd R4 S3 (.dT [([.inr "a", .inr "b"], .int 1)]) S3T1 = some (.tup [.str "b", .str "c"]) := by rw [upd_ne nS3T1]; exact wS3T1
    replace wS3T2 : upd R4 S3 (.dT [([.inr "a", .inr "b"], .int 1)]) S3T2 = some (.tup [.str "c", .str "d"]) := by rw [upd_ne nS3T2]; exact wS3T2
    replace wS3T3 : upd R4 S3 (.dT [([.inr "a", .inr "b"], .int 1)]) S3T3 = some (.tup [.str "d", .str "e"]) := by rw [upd_ne nS3T3]; exact wS3T3
    have kS30 : Same Q2 (upd R4 S3 (.dT [([.inr "a", .inr "b"], .int 1)])) := fun b u z => by rw [upd_ne (ne_of_none z hS3)]; exact (eS3.trans sS3) _ _ z
    generalize upd R4 S3 (.dT [([.inr "a", .inr "b"], .int 1)]) = R5 at uS31 kS30 wS3T1 wS3T2 wS3T3 ⊢
    refine ⟨upd R5 S3 (.dT [([.inr "a", .inr "b"], .int 1), ([.inr "b", .inr "c"], .int 1)]), .inr ⟨[([.inr "a", .inr "b"], .int 1)], [.inr "b", .inr "c"], S3T1, uS31, rfl, wS3T1, (by show 1 < sizeLine; omega), by kernel_rfl⟩, ?_⟩
    have uS32 : upd R5 S3 (.dT [([.inr "a", .inr "b"], .int 1), ([.inr "b", .inr "c"], .int 1)]) S3 = some (.dT [([.inr "a", .inr "b"], .int 1), ([.inr "b", .inr "c"], .int 1)]) := upd_same
    replace wS3T2 : upd R5 S3 (.dT [([.inr "a", .inr "b"], .int 1), ([.inr "b", .inr "c"], .int 1)]) S3T2 = some (.tup [.str "c", .str "d"]) := by rw [upd_ne nS3T2]; exact wS3T2
    replace wS3T3 : upd R5 S3 (.dT [([.inr "a", .inr "b"], .int 1), ([.inr "b", .inr "c"], .int 1)]) S3T3 = some (.tup [.str "d", .str "e"]) := by rw [upd_ne nS3T3]; exact wS3T3
    have kS31 : Same Q2 (upd R5 S3 (.dT [([.inr "a", .inr "b"], .int 1), ([.inr "b", .inr "c"], .int 1)])) := fun b u z => by rw [upd_ne (ne_of_none z hS3)]; exact kS30 _ _ z
    generalize upd R5 S3 (.dT [([.inr "a", .inr "b"], .int 1), ([.inr "b", .inr "c"], .int 1)]) = R6 at uS32 kS31 wS3T2 wS3T3 ⊢
    refine ⟨upd R6 S3 (.dT [([.inr "a", .inr "b"], .int 1), ([.inr "b", .inr "c"], .int 1), ([.inr "c", .inr "d"], .int 1)]), .inr ⟨[([.inr "a", .inr "b"], .int 1), ([.inr "b", .inr "c"], .int 1)], [.inr "c", .inr "d"], S3T2, uS32, rfl, wS3T2, (by show 2 < sizeLine; omega), by kernel_rfl⟩, ?_⟩
    have uS33 : upd R6 S3 (.dT [([.inr "a", .inr "b"], .int 1), ([.inr "b", .inr "c"], .int 1), ([.inr "c", .inr "d"], .int 1)]) S3 = some (.dT [([.inr "a", .inr "b"], .int 1), ([.inr "b", .inr "c"], .int 1), ([.inr "c", .inr "d"], .int 1)]) := upd_same
    replace wS3T3 : upd R6 S3 (.dT [([.inr "a", .inr "b"], .int 1), ([.inr "b", .inr "c"], .int 1), ([.inr "c", .inr "d"], .int 1)]) S3T3 = some (.tup [.str "d", .str "e"]) := by rw [upd_ne nS3T3]; exact wS3T3
    have kS32 : Same Q2 (upd R6 S3 (.dT [([.inr "a", .inr "b"], .int 1), ([.inr "b", .inr "c"], .int 1), ([.inr "c", .inr "d"], .int 1)])) := fun b u z => by rw [upd_ne (ne_of_none z hS3)]; exact kS31 _ _ z
    generalize upd R6 S3 (.dT [([.inr "a", .inr "b"], .int 1), ([.inr "b", .inr "c"], .int 1), ([.inr "c", .inr "d"], .int 1)]) = R7 at uS33 kS32 wS3T3 ⊢
    refine ⟨upd R7 S3 (.dT (dtF psN)), .inr ⟨[([.inr "a", .inr "b"], .int 1), ([.inr "b", .inr "c"], .int 1), ([.inr "c", .inr "d"], .int 1)], [.inr "d", .inr "e"], S3T3, uS33, rfl, wS3T3, (by show 3 < sizeLine; omega), by kernel_rfl⟩, ?_⟩
    have uS34 : upd R7 S3 (.dT (dtF psN)) S3 = some (.dT (dtF psN)) := upd_same
    have kS33 : Same Q2 (upd R7 S3 (.dT (dtF psN))) := fun b u z => by rw [upd_ne (ne_of_none z hS3)]; exact kS32 _ _ z
    generalize upd R7 S3 (.dT (dtF psN)) = R8 at uS34 kS33  ⊢
    refine ⟨rfl, rfl, fun v dv hv hdv nv => ?_⟩
    have nxv : ∀ b u, R8 b = some u → b ≠ v ∧ b ≠ dv := fun b u e => ⟨ne_of_none e hv, ne_of_none e hdv⟩
    have upv : ∀ b u, R8 b = some u → upd (upd R8 dv (.own v)) v (.ins Cp dv []) b = some u := fun b u e => by rw [upd_ne (nxv b u e).1, upd_ne (nxv b u e).2]; exact e
    refine ⟨v, dv, A3, B3, S3, zsN, zsN, gN, oN, psN, rfl, upd_same, by rw [upd_ne nv, upd_same], nv, upv _ _ (kS33 _ _ (eB3 _ _ uA3)), upv _ _ (kS33 _ _ uB3), upv _ _ uS34, prN, fun HV ysv qsv kv hPv Nv pmv ascv pqv srtv => ⟨rfl, ?_⟩⟩
    have Pv : PrS Cp HV v zsN gN oN psN := ⟨dv, ysv, qsv, hPv, Nv, pmv, ascv, pqv, srtv⟩
    obtain ⟨wxv, slv⟩ := hPv.inst
    refine ⟨_, rfl, v, dv, wxv, rfl, slv, v, zsN, zsN, gN, oN, psN, rfl, Pv, prN, fun w c' cps' HW eW CW AW NW PW => ?_⟩
    obtain ⟨v1, v2, v3, v4⟩ := valN CW
    obtain ⟨dw, yw, qw, hPw, Nw, pmw, ascw, pqw, srtw⟩ := PW
    have ma : ("a" : Str) ∈ yw := pmw.mem_iff.mpr (by decide +kernel)
    have me : ("e" : Str) ∈ yw := pmw.mem_iff.mpr (by decide +kernel)
    have m3 : ((("e", "d"), 5) : SP2) ∈ qw := pqw.mem_iff.mpr ((AW.iff _).mpr ⟨by decide +kernel, by decide +kernel, by decide +kernel, v3.symm⟩)
    have m4 : ((("a", "e"), 4) : SP2) ∈ qw := pqw.mem_iff.mpr ((AW.iff _).mpr ⟨by decide +kernel, by decide +kernel, by decide +kernel, v4.symm⟩)
    have g5 : valV (dkF yw (gC c')) (.inr "e") = some (.int 5) := by rw [dkF_val Nw.nd (gC c') me, v1]
    have o5 : valV (dkF yw (oC c')) (.inr "a") = some (.int 5) := by rw [dkF_val Nw.nd (oC c') ma, v2]
    have inst : ∀ {H' : Hp}, Same HW H' → ∃ ws, SlX.Slt H' w Cp dw ws := fun e => (hPw.same e).inst
    obtain ⟨w1, sl1⟩ := inst (Same.refl HW)
    refine ⟨_, rfl, w, dw, w1, rfl, sl1, w, dw, yw, yw, _, _, qw, rfl, hPw, Nw, fun d1 Z1 f1 e1 u1 => ⟨d1, .int 5, rfl, .inl ⟨_, .inr "e", .inl u1, rfl, g5.symm⟩, ?_⟩⟩
    obtain ⟨w2, sl2⟩ := inst e1
    refine ⟨_, rfl, w, dw, w2, rfl, sl2, w, dw, yw, yw, _, _, qw, rfl, hPw.same e1, Nw, fun d2 Z2 f2 e2 u2 => ⟨d2, .int 5, rfl, .inl ⟨_, .inr "a", .inl u2, rfl, o5.symm⟩, ?_⟩⟩
    have e12 := e1.trans e2
    obtain ⟨w3, sl3⟩ := inst e12
    refine ⟨_, rfl, w, dw, w3, rfl, sl3, w, dw, yw, yw, _, _, qw, rfl, hPw.same e12, Nw, fun d3 Z3 f3 e3 u3 => ⟨two, fun K3 hK3 => ⟨d3, .int 5, rfl, .inr ⟨_, [.inr "e", .inr "d"], K3, .inl (same_new hK3 _ _ u3), rfl, upd_same, (dtF_val Nw.sn m3).symm⟩, ?_⟩⟩⟩
    have e13 := (e12.trans e3).trans (same_new (o := .tup [.str "e", .str "d"]) hK3)
    generalize upd Z3 K3 (.tup [.str "e", .str "d"]) = Z4 at e13 ⊢
    obtain ⟨w4, sl4⟩ := inst e13
    refine ⟨_, rfl, w, dw, w4, rfl, sl4, w, dw, yw, yw, _, _, qw, rfl, hPw.same e13, Nw, fun d4 Z5 f4 e4 u4 => ⟨two, fun K4 hK4 => ⟨d4, .int 4, rfl, .inr ⟨_, [.inr "a", .inr "e"], K4, .inl (same_new hK4 _ _ u4), rfl, upd_same, (dtF_val Nw.sn m4).symm⟩, ?_⟩⟩⟩
    refine ⟨four, fun l1 hl1 => ⟨four, fun l2 hl2 => ?_⟩⟩
    refine ⟨.list [.int 5, .int 5, .int 5, .int 4], .list [.int 5, .int 5, .int 5, .int 4], .lst (SqL.of (same_new hl2 _ _ upd_same)) (.cons (.int _) (.cons (.int _) (.cons (.int _) (.cons (.int _) .nil)))), .lst (SqL.of upd_same) (.cons (.int _) (.cons (.int _) (.cons (.int _) (.cons (.int _) .nil)))), by decide +kernel, by decide +kernel, ?_⟩
    rw [show PyData.eqv (.list [.int 5, .int 5, .int 5, .int 4]) (.list [.int 5, .int 5, .int 5, .int 4]) = true by decide +kernel]
    exact hQ _
end
end MN
/-! the class Prices of k02 in the head's run; InvalidOperation; global names -/
namespace MN
open PySem PySem.Spec PyProof.Rows L2
theorem slB_at {K : PySem.W.Frag} {C : Addr} {f : Str} {i : Nat} (h : slB K C f = true) (hi : PySem.W.slotIn K (He.ma K C f) C = some i) : ∃ p, SlX.Slot1 K C f p i := by
  obtain ⟨h1, h⟩ := He.ba h
  obtain ⟨h2, h⟩ := He.ba h
  obtain ⟨h3, h⟩ := He.ba h
  obtain ⟨h4, h5⟩ := He.ba h
  rw [hi] at h5
  exact ⟨_, He.eqO_ok h1, He.eqO_ok h2, of_decide_eq_true h3, of_decide_eq_true h4, hi, of_decide_eq_true h5⟩
def slotCB (K : PySem.W.Frag) (C : Addr) : Bool := scB K C && ((slB K C "own_out" && decide (PySem.W.slotIn K (He.ma K C "own_out") C = some 0)) && ((slB K C "own_put" && decide (PySem.W.slotIn K (He.ma K C "own_put") C = some 1)) && (slB K C "own_swap" && decide (PySem.W.slotIn K (He.ma K C "own_swap") C = some 2))))
theorem slotCB_ok {K : PySem.W.Frag} {C : Addr} (h : slotCB K C = true) : SlotC K C := by
  obtain ⟨h0, h⟩ := He.ba h
  obtain ⟨h1, h⟩ := He.ba h
  obtain ⟨h2, h3⟩ := He.ba h
  obtain ⟨a1, b1⟩ := He.ba h1
  obtain ⟨a2, b2⟩ := He.ba h2
  obtain ⟨a3, b3⟩ := He.ba h3
  exact ⟨scB_ok h0, slB_at a1 (of_decide_eq_true b1), slB_at a2 (of_decide_eq_true b2), slB_at a3 (of_decide_eq_true b3)⟩
def propB (K : PySem.W.Frag) (C : Addr) (f : Str) : Bool := He.eqO (PySem.W.findIn K (.ref C) f) (some (some (.ref (He.ma K C f)))) && (He.eqO (PySem.W.specialIn K (.ref (He.ma K C f)) "__get__") (some (some (.builtin "property.__get__"))) && (decide (PySem.W.takesIn K (.ref (He.ma K C f)) = some true) && (match PySem.W.recIn K (He.ma K C f) "property" with
  | some (.ref _ :: _) => true
  | _ => false)))
theorem propB_ok {K : PySem.W.Frag} {C : Addr} {f : Str} (h : propB K C f = true) : PropOf K C f (He.ma K C f) (He5.wf K C "property" f) := by
  obtain ⟨h1, h⟩ := He.ba h
  obtain ⟨h2, h⟩ := He.ba h
  obtain ⟨h3, h4⟩ := He.ba h
  refine ⟨He.eqO_ok h1, He.eqO_ok h2, of_decide_eq_true h3, ?_⟩
  unfold He5.wf
  split at h4
  · rename_i g r e
    exact ⟨r, by rw [e]⟩
  · cases h4
abbrev gP (K : PySem.W.Frag) : Addr := He.ga K "Prices"
def spcB (K : PySem.W.Frag) (C : Addr) (f : Str) : Bool := He.eqO (PySem.W.findIn K (.ref C) f) (some (some (.ref (He.ma K C f)))) && PySem.W.isFn K (.ref (He.ma K C f))
def pdB1 (K : PySem.W.Frag) : Bool := slotCB K (gP K) && ((He.Fa.mkr "Prices").ok K && (siB K (gP K) && (decide (PySem.W.kitOne K (.ref (gP K)) (.ref (gP K)) = some true) && (decide (PySem.W.kitOne K (.type "list") (.ref (gP K)) = some false) && (decide (PySem.W.kitOne K (.type "int") (.ref (gP K)) = some false) &&
  (propB K (gP K) "put" && (propB K (gP K) "out" && (propB K (gP K) "swap" && (propB K (gP K) "signs" && propB K (gP K) "smallest")))))))))
def pdB2 (K : PySem.W.Frag) : Bool := spcB K (gP K) "__eq__" && (He.eqO (PySem.W.findIn K (.ref (gP K)) "__ne__") (some (some (.builtin "object.__ne__"))) && (decide (PySem.W.subIn K (.ref (gP K)) (.type "object") = some true) && (PySem.W.notFirst K (gP K) (.type "list") && (PySem.W.notFirst K (gP K) (.type "int") && (PySem.W.notFirst K (gP K) (.ref (gP K)) &&
  (spcB K (gP K) "__len__" && (spcB K (gP K) "__contains__" && (spcB K (gP K) "__str__" && ((He.Fa.meth "Prices" "with_price").ok K && ((He.Fa.meth "Prices" "limited").ok K && (He.Fa.meth "Prices" "times").ok K))))))))))
theorem pd_ok {K : PySem.W.Frag} {mg : Str → Option Value} {f0 f1 f2 f3 f4 f5 f6 f7 f8 f9 f10 f11 f12 : FuncData} (h1 : pdB1 K = true) (h2 : pdB2 K = true) (gp : mg "Prices" = some (.ref (He.ga K "Prices"))) (ev : EvnC K (He.ga K "Prices"))
    (F0 : FunAt K "__init__" "Prices.__init__" (inClass (top 25) 1) [] (He.ma K (gP K) "__init__") f0)
    (F1 : FunAt K "put" "Prices.put" (inClass (top 25) 4) [] (He5.wf K (gP K) "property" "put") f1) (F2 : FunAt K "out" "Prices.out" (inClass (top 25) 5) [] (He5.wf K (gP K) "property" "out") f2) (F3 : FunAt K "swap" "Prices.swap" (inClass (top 25) 6) [] (He5.wf K (gP K) "property" "swap") f3)
    (F4 : FunAt K "signs" "Prices.signs" (inClass (top 25) 3) [] (He5.wf K (gP K) "property" "signs") f4) (F5 : FunAt K "smallest" "Prices.smallest" (inClass (top 25) 7) [] (He5.wf K (gP K) "property" "smallest") f5)
    (F6 : FunAt K "__eq__" "Prices.__eq__" (inClass (top 25) 16) [] (He.ma K (gP K) "__eq__") f6) (F7 : FunAt K "__len__" "Prices.__len__" (inClass (top 25) 15) [] (He.ma K (gP K) "__len__") f7)
    (F8 : FunAt K "__contains__" "Prices.__contains__" (inClass (top 25) 14) [] (He.ma K (gP K) "__contains__") f8) (F9 : FunAt K "__str__" "Prices.__str__" (inClass (top 25) 17) [] (He.ma K (gP K) "__str__") f9)
    (F10 : FunAt K "with_price" "Prices.with_price" (inClass (top 25) 11) [] (He.ma K (gP K) "with_price") f10) (F11 : FunAt K "limited" "Prices.limited" (inClass (top 25) 12) [] (He.ma K (gP K) "limited") f11) (F12 : FunAt K "times" "Prices.times" (inClass (top 25) 13) [] (He.ma K (gP K) "times") f12) :
    PrD K mg (He.ga K "Prices") := by
  obtain ⟨a1, h⟩ := He.ba h1
  obtain ⟨a2, h⟩ := He.ba h
  obtain ⟨a3, h⟩ := He.ba h
  obtain ⟨a4, h⟩ := He.ba h
  obtain ⟨a5, h⟩ := He.ba h
  obtain ⟨a6, h⟩ := He.ba h
  obtain ⟨a7, h⟩ := He.ba h
  obtain ⟨a8, h⟩ := He.ba h
  obtain ⟨a9, h⟩ := He.ba h
  obtain ⟨a10, a11⟩ := He.ba h
  obtain ⟨b1, h⟩ := He.ba h2
  obtain ⟨b2, h⟩ := He.ba h
  obtain ⟨b3, h⟩ := He.ba h
  obtain ⟨b4, h⟩ := He.ba h
  obtain ⟨b5, h⟩ := He.ba h
  obtain ⟨b6, h⟩ := He.ba h
  obtain ⟨b7, h⟩ := He.ba h
  obtain ⟨b8, h⟩ := He.ba h
  obtain ⟨b9, h⟩ := He.ba h
  obtain ⟨b10, h⟩ := He.ba h
  obtain ⟨b11, b12⟩ := He.ba h
  obtain ⟨c1, d1⟩ := He.ba b1
  obtain ⟨c7, d7⟩ := He.ba b7
  obtain ⟨c8, d8⟩ := He.ba b8
  obtain ⟨c9, d9⟩ := He.ba b9
  exact ⟨slotCB_ok a1, gp, ⟨_, f0, He.mkr_ok a2, F0⟩, siB_ok a3, of_decide_eq_true a4, of_decide_eq_true a5, of_decide_eq_true a6, ⟨_, _, f1, propB_ok a7, F1⟩, ⟨_, _, f2, propB_ok a8, F2⟩, ⟨_, _, f3, propB_ok a9, F3⟩, ⟨_, _, f4, propB_ok a10, F4⟩, ⟨_, _, f5, propB_ok a11, F5⟩,
    ⟨_, f6, He.eqO_ok c1, d1, F6⟩, He.eqO_ok b2, of_decide_eq_true b3, b4, b5, b6, ⟨_, f7, He.eqO_ok c7, d7, F7⟩, ⟨_, f8, He.eqO_ok c8, d8, F8⟩, ⟨_, f9, He.eqO_ok c9, d9, F9⟩, ⟨_, f10, He.meth_ok b10, F10⟩, ⟨_, f11, He.meth_ok b11, F11⟩, ⟨_, f12, He.meth_ok b12, F12⟩, ev⟩
theorem errC_ok {K : PySem.W.Frag} {mg : Str → Option Value} (gi : mg "InvalidOperation" = some (.ref (He.ga K "InvalidOperation"))) (h1 : (He.Fa.exc "InvalidOperation").ok K = true) (h2 : (He.Fa.exm "InvalidOperation" "InvalidOperation" true).ok K = true) : ErrC K mg (He.ga K "InvalidOperation") := by
  obtain ⟨a, b, c, d⟩ := He.exc_ok h1
  exact ⟨gi, a, b, c, d, He.exm_ok h2⟩
end MN
/-! the classes of k03 in the head's run -/
namespace MN
open PySem PySem.Spec PyProof.Rows L2
def p3B (K : PySem.W.Frag) : Bool := slotCB K (He.ga K "Closed") && ((He.Fa.mkr "Closed").ok K && ((He.Fa.meth "Prices" "closed").ok K && ((He.Fa.meth "Prices" "is_closed").ok K && (He.Fa.meth "Prices" "is_at_most").ok K)))
theorem p3_ok {K : PySem.W.Frag} {mg : Str → Option Value} {f1 f2 f3 f4 : FuncData} (h : p3B K = true) (PD : PrD K mg (He.ga K "Prices")) (gc : mg "Closed" = some (.ref (He.ga K "Closed")))
    (F1 : FunAt K "closed" "Prices.closed" (inClass (top 25) 8) [] (He.ma K (gP K) "closed") f1) (F2 : FunAt K "is_closed" "Prices.is_closed" (inClass (top 25) 9) [] (He.ma K (gP K) "is_closed") f2) (F3 : FunAt K "is_at_most" "Prices.is_at_most" (inClass (top 25) 10) [] (He.ma K (gP K) "is_at_most") f3)
    (F4 : FunAt K "__init__" "Closed.__init__" (inClass (top 23) 1) [] (He.ma K (He.ga K "Closed") "__init__") f4) : Pr3 K mg (He.ga K "Prices") (He.ga K "Closed") := by
  obtain ⟨a1, h⟩ := He.ba h
  obtain ⟨a2, h⟩ := He.ba h
  obtain ⟨a3, h⟩ := He.ba h
  obtain ⟨a4, a5⟩ := He.ba h
  exact ⟨PD, slotCB_ok a1, gc, ⟨_, f4, He.mkr_ok a2, F4⟩, ⟨_, f1, He.meth_ok a3, F1⟩, ⟨_, f2, He.meth_ok a4, F2⟩, ⟨_, f3, He.meth_ok a5, F3⟩⟩
end MN
/-! the runs of the head -/
namespace MN
open PySem PySem.Spec PyProof.Rows L2
abbrev R03 : PySem.W.OpenRow := PySem.W.OpenLaw.row PySem.Challenge.rw_mendnumber_k03_whole_closed_prices
def names03 : List Str := ([("_wall" : Str), ("MendError" : Str), ("InvalidPrices" : Str), ("InvalidChange" : Str), ("InvalidOperation" : Str), ("InvalidNumber" : Str), ("SIGNS" : Str), ("GREATEST" : Str)] : List Str) ++ ([("is_integer" : Str), ("is_sign" : Str), ("require_number" : Str), ("MAX_PRICE" : Str), ("MAX_SWAP" : Str), ("PUT" : Str), ("OUT" : Str), ("SWAP" : Str)] : List Str) ++ ([("is_price" : Str), ("is_pair" : Str), ("are_prices" : Str), ("is_kind_of_change" : Str), ("Closed" : Str), ("closed_of" : Str), ("Prices" : Str), ("require_prices" : Str)] : List Str) ++ ([("_law_filled" : Str), ("_law_dip" : Str), ("_law_choose" : Str), ("_law_shuffled" : Str), ("_law_signs" : Str), ("_law_tables" : Str), ("_law_made" : Str), ("_law_behind" : Str)] : List Str) ++ ([("_law_costs" : Str), ("_law_closed" : Str), ("_law_is_told" : Str), ("_law_kinds" : Str), ("_law_is_below" : Str), ("_law_twice_right" : Str), ("_law_right" : Str)] : List Str)
def defs03a : List He5.DefA := [gDef "is_integer" (top 10),
  gDef "is_sign" (top 11),
  gDef "require_number" (top 12),
  gDef "is_price" (top 19),
  gDef "is_pair" (top 20),
  gDef "are_prices" (top 21),
  gDef "is_kind_of_change" (top 22),
  gDef "closed_of" (top 24),
  gDef "require_prices" (top 26)]
def glo03a : List Str := ([("is_integer" : Str), ("is_sign" : Str), ("require_number" : Str), ("is_price" : Str), ("is_pair" : Str), ("are_prices" : Str), ("is_kind_of_change" : Str), ("closed_of" : Str)] : List Str) ++ ([("require_prices" : Str), ("InvalidOperation" : Str)] : List Str)
def ex03a (K : PySem.W.Frag) : Bool := gloAll K glo03a && (freeAll K bltNames && ((He.Fa.str "SIGNS" "abcde").ok K && ((He.Fa.int "GREATEST" (10 ^ 60)).ok K && ((He.Fa.int "MAX_PRICE" 9).ok K && ((He.Fa.int "MAX_SWAP" 18).ok K && ((He.Fa.str "PUT" "put").ok K && ((He.Fa.str "OUT" "out").ok K && ((He.Fa.str "SWAP" "swap").ok K && ((He.Fa.exc "InvalidOperation").ok K && ((He.Fa.exm "InvalidOperation" "InvalidOperation" true).ok K))))))))))
def defs03b : List He5.DefA := [{ at_ := fun K => He.ma K (He.ga K "Prices") "__init__", name := "__init__", qual := "Prices.__init__", params := defArgs (inClass (top 25) 1), body := defBody (inClass (top 25) 1), scope := defScope (inClass (top 25) 1) },
  { at_ := fun K => He.ma K (He.ga K "Prices") "__eq__", name := "__eq__", qual := "Prices.__eq__", params := defArgs (inClass (top 25) 16), body := defBody (inClass (top 25) 16), scope := defScope (inClass (top 25) 16) },
  { at_ := fun K => He.ma K (He.ga K "Prices") "__len__", name := "__len__", qual := "Prices.__len__", params := defArgs (inClass (top 25) 15), body := defBody (inClass (top 25) 15), scope := defScope (inClass (top 25) 15) },
  { at_ := fun K => He.ma K (He.ga K "Prices") "__contains__", name := "__contains__", qual := "Prices.__contains__", params := defArgs (inClass (top 25) 14), body := defBody (inClass (top 25) 14), scope := defScope (inClass (top 25) 14) },
  { at_ := fun K => He.ma K (He.ga K "Prices") "__str__", name := "__str__", qual := "Prices.__str__", params := defArgs (inClass (top 25) 17), body := defBody (inClass (top 25) 17), scope := defScope (inClass (top 25) 17) },
  { at_ := fun K => He.ma K (He.ga K "Prices") "with_price", name := "with_price", qual := "Prices.with_price", params := defArgs (inClass (top 25) 11), body := defBody (inClass (top 25) 11), scope := defScope (inClass (top 25) 11) },
  { at_ := fun K => He.ma K (He.ga K "Prices") "limited", name := "limited", qual := "Prices.limited", params := defArgs (inClass (top 25) 12), body := defBody (inClass (top 25) 12), scope := defScope (inClass (top 25) 12) },
  { at_ := fun K => He.ma K (He.ga K "Prices") "times", name := "times", qual := "Prices.times", params := defArgs (inClass (top 25) 13), body := defBody (inClass (top 25) 13), scope := defScope (inClass (top 25) 13) },
  { at_ := fun K => He.ma K (He.ga K "Prices") "closed", name := "closed", qual := "Prices.closed", params := defArgs (inClass (top 25) 8), body := defBody (inClass (top 25) 8), scope := defScope (inClass (top 25) 8) },
  { at_ := fun K => He.ma K (He.ga K "Prices") "is_closed", name := "is_closed", qual := "Prices.is_closed", params := defArgs (inClass (top 25) 9), body := defBody (inClass (top 25) 9), scope := defScope (inClass (top 25) 9) },
  { at_ := fun K => He.ma K (He.ga K "Prices") "is_at_most", name := "is_at_most", qual := "Prices.is_at_most", params := defArgs (inClass (top 25) 10), body := defBody (inClass (top 25) 10), scope := defScope (inClass (top 25) 10) },
  { at_ := fun K => He.ma K (He.ga K "Closed") "__init__", name := "__init__", qual := "Closed.__init__", params := defArgs (inClass (top 23) 1), body := defBody (inClass (top 23) 1), scope := defScope (inClass (top 23) 1) },
  { at_ := fun K => He5.wf K (He.ga K "Prices") "property" "put", name := "put", qual := "Prices.put", params := defArgs (inClass (top 25) 4), body := defBody (inClass (top 25) 4), scope := defScope (inClass (top 25) 4) },
  { at_ := fun K => He5.wf K (He.ga K "Prices") "property" "out", name := "out", qual := "Prices.out", params := defArgs (inClass (top 25) 5), body := defBody (inClass (top 25) 5), scope := defScope (inClass (top 25) 5) },
  { at_ := fun K => He5.wf K (He.ga K "Prices") "property" "swap", name := "swap", qual := "Prices.swap", params := defArgs (inClass (top 25) 6), body := defBody (inClass (top 25) 6), scope := defScope (inClass (top 25) 6) },
  { at_ := fun K => He5.wf K (He.ga K "Prices") "property" "signs", name := "signs", qual := "Prices.signs", params := defArgs (inClass (top 25) 3), body := defBody (inClass (top 25) 3), scope := defScope (inClass (top 25) 3) },
  { at_ := fun K => He5.wf K (He.ga K "Prices") "property" "smallest", name := "smallest", qual := "Prices.smallest", params := defArgs (inClass (top 25) 7), body := defBody (inClass (top 25) 7), scope := defScope (inClass (top 25) 7) },
  { at_ := fun K => He5.wf K (He.ga K "Prices") "classmethod" "even", name := "even", qual := "Prices.even", params := defArgs (inClass (top 25) 2), body := defBody (inClass (top 25) 2), scope := defScope (inClass (top 25) 2), dfl := [.int 1] }]
def glo03b : List Str := ([("Prices" : Str), ("Closed" : Str)] : List Str)
def ex03b (K : PySem.W.Frag) : Bool := gloAll K glo03b && (pdB1 K && (pdB2 K && (rdB K (He.ga K "Prices") && (cmB K (He.ga K "Prices") "even" && (p3B K)))))
def defs03c : List He5.DefA := [gDef "_law_filled" (top 28),
  gDef "_law_dip" (top 29),
  gDef "_law_choose" (top 30),
  gDef "_law_shuffled" (top 31),
  gDef "_law_signs" (top 32),
  gDef "_law_tables" (top 33),
  gDef "_law_made" (top 34),
  gDef "_law_behind" (top 35),
  gDef "_law_costs" (top 36),
  gDef "_law_closed" (top 37),
  gDef "_law_is_told" (top 38),
  gDef "_law_kinds" (top 39),
  gDef "_law_is_below" (top 40),
  gDef "_law_twice_right" (top 41),
  gDef "_law_right" (top 42),
  gDef "law" (top 43)]
def glo03c : List Str := ([("_law_filled" : Str), ("_law_dip" : Str), ("_law_choose" : Str), ("_law_shuffled" : Str), ("_law_signs" : Str), ("_law_tables" : Str), ("_law_made" : Str), ("_law_behind" : Str)] : List Str) ++ ([("_law_costs" : Str), ("_law_closed" : Str), ("_law_is_told" : Str), ("_law_kinds" : Str), ("_law_is_below" : Str), ("_law_twice_right" : Str), ("_law_right" : Str), ("law" : Str)] : List Str)
def ex03c (K : PySem.W.Frag) : Bool := gloAll K glo03c
def ps03 : List Look := [(ex03a, defs03a), (ex03b, defs03b), (ex03c, defs03c)]
set_option maxHeartbeats 0 in
theorem runL03 : RunL R03 20000 := by
  intro w os
  kernel_rfl
set_option maxHeartbeats 0 in
theorem runN03 : RunN R03 20000 (PySem.W.view R03.prog [43]) names03 := by
  intro w os
  kernel_rfl
set_option maxHeartbeats 0 in
theorem runP03a : RunP R03 20000 1100 (ex03a, defs03a) := by
  intro w os
  kernel_rfl
set_option maxHeartbeats 0 in
theorem runP03b : RunP R03 20000 1100 (ex03b, defs03b) := by
  intro w os
  kernel_rfl
set_option maxHeartbeats 0 in
theorem runP03c : RunP R03 20000 1100 (ex03c, defs03c) := by
  intro w os
  kernel_rfl
theorem run03 (w : World) : HandSHeadRun.RunEq R03 (PySem.W.view R03.prog [43]) (hookL 1100 ps03) (obL 1100 ps03) 20000 names03 w := run_of R03 20000 runL03 runN03 (fun p hp => by
  simp only [ps03, List.mem_cons, List.not_mem_nil, or_false] at hp
  rcases hp with rfl | rfl | rfl
  · exact runP03a
  · exact runP03b
  · exact runP03c) w
end MN
/-! the facts and the end -/
namespace MN
open PySem PySem.Spec PyProof.Rows L2
section
variable {P : Program} {w : World} {K : PySem.W.Frag} {h : Heap} {mg : Str → Option Value}
theorem at03 {ex : PySem.W.Frag → Bool} {defs : List He5.DefA} {glo : List Str} (X : K.In h) (G : h.Ns mainGlobals mg) (c : SaysX ex defs K) (hg : gloAll K glo = true) (i : Nat) (x : Str) (st : Stmt) (hi : defs[i]? = some (gDef x st)) (hx : x ∈ glo) : At K mg x st := by
  obtain ⟨fd, F⟩ := c.def_ i hi
  exact ⟨_, fd, F, gloAll_ok X G hg hx⟩
theorem facts03 {f : Addr} (X : K.In h) (G : h.Ns mainGlobals mg) (hfa : mg ("law" : Str) = some (.ref f)) (cc : ∀ p ∈ ps03, SaysX p.1 p.2 K) :
    ∃ fd : FuncData, (∀ (s : Shared) (v : Value), BindsTo s fd ⟨[v], []⟩ [("_law_script", v)]) ∧ ∀ base : Heap, K.In base → base.Ns mainGlobals mg → FnG P w K mg base 9 f fd ["_law_script"] (spLaw K) := by
  have sa : SaysX ex03a defs03a K := cc (ex03a, defs03a) List.mem_cons_self
  obtain ⟨ga, e⟩ := He.ba sa.all
  obtain ⟨a0, e⟩ := He.ba e
  obtain ⟨a1, e⟩ := He.ba e
  obtain ⟨a2, e⟩ := He.ba e
  obtain ⟨a3, e⟩ := He.ba e
  obtain ⟨a4, e⟩ := He.ba e
  obtain ⟨a5, e⟩ := He.ba e
  obtain ⟨a6, e⟩ := He.ba e
  obtain ⟨a7, e⟩ := He.ba e
  obtain ⟨a8, e⟩ := He.ba e
  have a9 := e
  clear e
  have sb : SaysX ex03b defs03b K := cc (ex03b, defs03b) (List.mem_cons_of_mem _ List.mem_cons_self)
  obtain ⟨gb, e⟩ := He.ba sb.all
  obtain ⟨b0, e⟩ := He.ba e
  obtain ⟨b1, e⟩ := He.ba e
  obtain ⟨b2, e⟩ := He.ba e
  obtain ⟨b3, e⟩ := He.ba e
  have b4 := e
  clear e
  have sc : SaysX ex03c defs03c K := cc (ex03c, defs03c) (List.mem_cons_of_mem _ (List.mem_cons_of_mem _ List.mem_cons_self))
  have gc : gloAll K glo03c = true := sc.all
  have G_GREATEST := intC_ok X G a2
  have G_MAX_PRICE := intC_ok X G a3
  have G_MAX_SWAP := intC_ok X G a4
  have B : Blt mg := Blt.of (freeAll_ok X G a0) (strC_ok X G a1)
  obtain ⟨FEd, FE⟩ := sb.def_ 17
  have EV : EvnC K (He.ga K "Prices") := ⟨_, _, _, FEd, rdB_ok b2, cmB_ok b3, FE⟩
  obtain ⟨PD0_d, PD0_⟩ := sb.def_ 0
  obtain ⟨PD1_d, PD1_⟩ := sb.def_ 12
  obtain ⟨PD2_d, PD2_⟩ := sb.def_ 13
  obtain ⟨PD3_d, PD3_⟩ := sb.def_ 14
  obtain ⟨PD4_d, PD4_⟩ := sb.def_ 15
  obtain ⟨PD5_d, PD5_⟩ := sb.def_ 16
  obtain ⟨PD6_d, PD6_⟩ := sb.def_ 1
  obtain ⟨PD7_d, PD7_⟩ := sb.def_ 2
  obtain ⟨PD8_d, PD8_⟩ := sb.def_ 3
  obtain ⟨PD9_d, PD9_⟩ := sb.def_ 4
  obtain ⟨PD10_d, PD10_⟩ := sb.def_ 5
  obtain ⟨PD11_d, PD11_⟩ := sb.def_ 6
  obtain ⟨PD12_d, PD12_⟩ := sb.def_ 7
  have PD := pd_ok (mg := mg) b0 b1 (gloAll_ok X G gb (x := "Prices") (by decide +kernel)) EV PD0_ PD1_ PD2_ PD3_ PD4_ PD5_ PD6_ PD7_ PD8_ PD9_ PD10_ PD11_ PD12_
  have hm_Prices := PD.gp
  obtain ⟨P30_d, P30_⟩ := sb.def_ 8
  obtain ⟨P31_d, P31_⟩ := sb.def_ 9
  obtain ⟨P32_d, P32_⟩ := sb.def_ 10
  obtain ⟨P33_d, P33_⟩ := sb.def_ 11
  have P3 := p3_ok (mg := mg) b4 PD (gloAll_ok X G gb (x := "Closed") (by decide +kernel)) P30_ P31_ P32_ P33_
  have GL : GlP mg := ⟨strC_ok X G a7, strC_ok X G a5, strC_ok X G a6, G_MAX_PRICE, G_MAX_SWAP, G_GREATEST⟩
  have ER := errC_ok (gloAll_ok X G ga (x := "InvalidOperation") (by decide +kernel)) a8 a9
  have G_SWAP := GL.S
  have G_PUT := GL.P
  have G_OUT := GL.O
  have PC := P3.pc
  obtain ⟨fd, F⟩ := sc.def_ 15
  have e := hfa.symm.trans (gloAll_ok X G gc (x := "law") (by decide +kernel))
  cases e
  have b := FunD.bindsA (ps := ["_law_script"]) F fun _ _ _ _ _ _ us hl => match us, hl with | [_], _ => rfl
  refine ⟨fd, fun s v => b s [v] rfl, fun base _ _ => ?_⟩
  have aa := fun i x st hi hx => at03 (mg := mg) (glo := glo03a) X G sa ga i x st hi hx
  have ab := fun i x st hi hx => at03 (mg := mg) (glo := glo03b) X G sb gb i x st hi hx
  have ac := fun i x st hi hx => at03 (mg := mg) (glo := glo03c) X G sc gc i x st hi hx
  have h_c_is_integer := MN.c_is_integer (P := P) (w := w) (K := K) (mg := mg) (base := base)  (aa 0 _ _ rfl (by decide +kernel)) B G_GREATEST
  have h_c_is_sign := MN.c_is_sign (P := P) (w := w) (K := K) (mg := mg) (base := base)  (aa 1 _ _ rfl (by decide +kernel)) B
  have h_c_require_number := MN.c_require_number (P := P) (w := w) (K := K) (mg := mg) (base := base)  (aa 2 _ _ rfl (by decide +kernel)) h_c_is_integer
  have h_c_is_price := MN.c_is_price (P := P) (w := w) (K := K) (mg := mg) (base := base)  (aa 3 _ _ rfl (by decide +kernel)) h_c_is_integer
  have h_c_is_pair := MN.c_is_pair (P := P) (w := w) (K := K) (mg := mg) (base := base)  (aa 4 _ _ rfl (by decide +kernel)) B h_c_is_sign
  have h_c_are_prices2 := MN.c_are_prices2 (P := P) (w := w) (K := K) (mg := mg) (base := base)  (aa 5 _ _ rfl (by decide +kernel)) B G_MAX_PRICE G_MAX_SWAP h_c_is_sign h_c_is_price h_c_is_pair
  have h_c_are_prices3 := MN.c_are_prices3 (P := P) (w := w) (K := K) (mg := mg) (base := base)  (aa 5 _ _ rfl (by decide +kernel)) B G_MAX_PRICE G_MAX_SWAP h_c_is_sign h_c_is_price h_c_is_pair
  have h_c_kic := MN.c_kic (P := P) (w := w) (K := K) (mg := mg) (base := base)  (aa 6 _ _ rfl (by decide +kernel)) B G_SWAP G_PUT G_OUT h_c_is_sign h_c_is_pair
  have h_c_closed_of := MN.c_closed_of (P := P) (w := w) (K := K) (mg := mg) (base := base)  (aa 7 _ _ rfl (by decide +kernel)) B PC
  have h_c_require_prices := MN.c_require_prices (P := P) (w := w) (K := K) (mg := mg) (base := base)  (aa 8 _ _ rfl (by decide +kernel)) B PC
  have h_c_law_filled := MN.c_law_filled (P := P) (w := w) (K := K) (mg := mg) (base := base)  (ac 0 _ _ rfl (by decide +kernel)) B
  have h_c_law_dip := MN.c_law_dip (P := P) (w := w) (K := K) (mg := mg) (base := base)  (ac 1 _ _ rfl (by decide +kernel)) B
  have h_c_law_choose := MN.c_law_choose (P := P) (w := w) (K := K) (mg := mg) (base := base)  (ac 2 _ _ rfl (by decide +kernel)) B h_c_law_dip
  have h_c_law_shuffled := MN.c_law_shuffled (P := P) (w := w) (K := K) (mg := mg) (base := base)  (ac 3 _ _ rfl (by decide +kernel)) B h_c_law_dip
  have h_c_law_signs02 := MN.c_law_signs02 (P := P) (w := w) (K := K) (mg := mg) (base := base)  (ac 4 _ _ rfl (by decide +kernel)) B h_c_law_dip h_c_law_shuffled
  have h_c_law_tables := MN.c_law_tables (P := P) (w := w) (K := K) (mg := mg) (base := base)  (ac 5 _ _ rfl (by decide +kernel)) B h_c_law_dip h_c_law_choose h_c_law_shuffled
  have h_c_law_made02 := MN.c_law_made02 (P := P) (w := w) (K := K) (mg := mg) (base := base)  (ac 6 _ _ rfl (by decide +kernel)) B P3.pd.sp hm_Prices P3.pd.ip h_c_are_prices2
  have h_c_law_behind3 := MN.c_law_behind3 (P := P) (w := w) (K := K) (mg := mg) (base := base)  (ac 7 _ _ rfl (by decide +kernel)) B
  have h_c_law_costs := MN.c_law_costs (P := P) (w := w) (K := K) (mg := mg) (base := base)  (ac 8 _ _ rfl (by decide +kernel)) B
  have h_c_law_closed3 := MN.c_law_closed3 (P := P) (w := w) (K := K) (mg := mg) (base := base)  (ac 9 _ _ rfl (by decide +kernel)) B h_c_law_behind3 h_c_law_costs
  have h_c_law_is_told3 := MN.c_law_is_told3 (P := P) (w := w) (K := K) (mg := mg) (base := base)  (ac 10 _ _ rfl (by decide +kernel)) B P3.pd
  have h_c_law_kinds := MN.c_law_kinds (P := P) (w := w) (K := K) (mg := mg) (base := base)  (ac 11 _ _ rfl (by decide +kernel)) B
  have h_c_law_is_below := MN.c_law_is_below (P := P) (w := w) (K := K) (mg := mg) (base := base)  (ac 12 _ _ rfl (by decide +kernel)) B
  have h_c_law_twice_right := MN.c_law_twice_right (P := P) (w := w) (K := K) (mg := mg) (base := base)  (ac 13 _ _ rfl (by decide +kernel)) B P3 ER G_GREATEST h_c_are_prices3 h_c_are_prices2 h_c_require_number h_c_closed_of h_c_law_is_told3
  have h_c_law_right03 := MN.c_law_right03 (P := P) (w := w) (K := K) (mg := mg) (base := base)  (ac 14 _ _ rfl (by decide +kernel)) B P3 GL h_c_kic h_c_is_price h_c_are_prices2 h_c_closed_of h_c_require_prices h_c_law_dip h_c_law_signs02 h_c_law_tables h_c_law_made02 h_c_law_closed3 h_c_law_is_told3 h_c_law_kinds h_c_law_is_below h_c_law_twice_right
  exact f_law F B P3 h_c_are_prices2 h_c_closed_of h_c_law_filled h_c_law_right03 h_c_law_is_told3
end
end MN
open PySem PySem.W PySem.Calls PyProof.Rows
set_option maxHeartbeats 0 in
theorem PySem.Challenge.cw_mendnumber_k03_whole_closed_prices_holds : PySem.Challenge.rw_mendnumber_k03_whole_closed_prices.Holds := by
  w_on; o_law
  refine HandSHeadRun.head_any (r := OpenLaw.row PySem.Challenge.rw_mendnumber_k03_whole_closed_prices) (q := view (OpenLaw.row PySem.Challenge.rw_mendnumber_k03_whole_closed_prices).prog [43]) (H := MN.hookL 1100 MN.ps03) (ob := MN.obL 1100 MN.ps03) (M := 20000) (loose := MN.names03) (d := HandSHeadRun.topDef (OpenLaw.row PySem.Challenge.rw_mendnumber_k03_whole_closed_prices).prog 43) (kwd := []) (MN.obL_eq 1100 MN.ps03)
    (by kernel_rfl) (fun s => by kernel_rfl) MN.run03 (by kernel_rfl) (by kernel_rfl) (by kernel_rfl) (by rfl) (by first | assumption | decide +kernel) (by decide +kernel) ⟨rfl, rfl, rfl, rfl, rfl, by decide +kernel⟩ ?hw ?hc
  case hw => w_witness2
  case hc =>
    refine MN.walk_g (l := PySem.Challenge.rw_mendnumber_k03_whole_closed_prices) (n := 63) (k := 9) (x := "_law_script") rfl (by decide) (by kernel_rfl) ⟨rfl, by decide, by decide⟩ ?F
    intro w mg fa h Y G hmg0
    obtain ⟨K, KX, c⟩ := Y
    have hmg : mg ("law" : PySem.Str) = some (.ref fa) := by
      have e : (HandSHeadRun.topDef (OpenLaw.row PySem.Challenge.rw_mendnumber_k03_whole_closed_prices).prog 43).name = ("law" : PySem.Str) := by kernel_rfl
      rw [← e]
      exact hmg0
    obtain ⟨fd, hb, hF⟩ := MN.facts03 (P := (PySem.Challenge.rw_mendnumber_k03_whole_closed_prices).prog) (w := w) KX G hmg c
    exact ⟨K, fd, MN.spLaw K, KX, hb, fun H a ns hl _ hS => ⟨a, ns, rfl, hS, Nat.le_trans hl (by decide), fun _ => rfl⟩, hF⟩
