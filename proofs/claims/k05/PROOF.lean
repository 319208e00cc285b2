import PyProof.Rows.All
import Wide.All
import OpenK.AllK
import Wide.FinOn
import KE.KStateDown
import KE.SortKeyHeap
import KE.GoesMore
import KE.GoesNew
import KE.KDictZip
import Lean
import HandS.Deep
import HandS.ForMost
import HandS.More
import HandS.Walk
import HandS.Flow
import HandS.Style
import HandS.Conv
import HandS.Defaults
import HandS.IsInst
import HandS.DictComp
import HandS.SortKw
import HandS.Slots
import HandS.SlotsOwn
import HandS.ClsMeth
import HandS.MakeKwOnly
import HandS.Zip
import HandS.TupAny
import HandS.ListItems
import HandS.SetFor
import HandS.SetBool
import HandS.Strs
import HandS.CallLocal
import HandS.WordsExc
import HandS.WordsDict
import HandS.Small
import HandS.Head0
import HandS.Head1
import HandS.Head2
import HandS.HeadEnd
import HandS.HeadHook1
import HandS.HeadHook2
import HandS.HeadNt
import HandS.GenList
import HandS.TupLen
import KE.KDictPairs
import HandS.DictTup
import HandS.Star
import HandS.TupSets
import HandS.Flt
import HandS.Property
import HandS.TupMul
import KE.DataMinMax
import KE.KDictItemsList
import HandS.DictEq
import HandS.OwnEq
import HandS.FStr
import HandS.TryOnly
import HandS.Lambda
import HandS.ExcField
import KE.KExcSuper
import PySem.Challenge.RW_mendnumber_k05_changes_told
set_option Elab.async false
set_option linter.all false
set_option maxRecDepth 100000
set_option maxHeartbeats 4000000
/-! defs by their names; promises that hold while nothing is being shown (repr) -/
namespace MN
open PySem PySem.Spec PyProof.Rows L2
/-- the def x of the text st, under its name -/
def At (K : PySem.W.Frag) (mg : Str → Option Value) (x : Str) (st : Stmt) : Prop := ∃ f fd, FunD K x x (defArgs st) (defBody st) (defScope st) [] [] f fd ∧ mg x = some (.ref f)
abbrev BindEq (x : Str) (st : Stmt) (ps : List Str) : Prop := ∀ (kV doc pm : Value) (an : Option Addr) (cdv ct : Value) (us : List Value), us.length = ps.length → bindArgs (PySem.W.fnOf x x (defArgs st) (defBody st) (defScope st) .none kV doc pm an cdv ct) ⟨us, []⟩ = pure (ps.zip us)
/-- a def that may be called by its name -/
structure Cal (P : Program) (w : World) (K : PySem.W.Frag) (mg : Str → Option Value) (base : Heap) (k : Nat) (x : Str) (sp : Sp) : Prop where
  ex : ∃ (f : Addr) (fd : FuncData) (ps : List Str), FnOk P w K mg base CX0 k f fd ps sp ∧ mg x = some (.ref f) ∧ PySem.W.keepIn K (.ref f) = true ∧ Binds K fd ps []
/-- FnOk for calls under which nothing is being shown -/
structure FnG (P : Program) (w : World) (K : PySem.W.Frag) (mg : Str → Option Value) (base : Heap) (k : Nat) (f : Addr) (fd : FuncData) (ps : List Str) (sp : Sp) : Prop where
  len : ∀ vs H Q E, sp vs H Q E → vs.length = ps.length
  run : ∀ (A : Around) (outer : List Env) (s : Shared) (H : Hp) (args : Args) (us : List Value) (vs : List V) (Q : VK) (E : XK), A.guards = some [] → Room k A → Env0 P w K mg base A outer s H →
    BindsTo s fd args (ps.zip us) → Vals vs us → sp vs H Q E → codeAny (model P w) A (.call (.ref f) args) (CR CX0 outer P w H s Q E) s
structure CalG (P : Program) (w : World) (K : PySem.W.Frag) (mg : Str → Option Value) (base : Heap) (k : Nat) (x : Str) (sp : Sp) : Prop where
  ex : ∃ (f : Addr) (fd : FuncData) (ps : List Str), FnG P w K mg base k f fd ps sp ∧ mg x = some (.ref f) ∧ PySem.W.keepIn K (.ref f) = true ∧ Binds K fd ps []
section
variable {X : Cx} {k j : Nat} {x : Str} {sp : Sp} {p pos : Pos} {e : Expr} {es : List Expr} {t : TA}
theorem pe_c (c : Cal X.prog X.w X.K X.mg X.base k x sp) (hr : Room j X.A) (hk : k ≤ j) (hg : Gl X x) (ha : PA X (e :: es) t)
    (hdb : (x == ("__debug__" : Str)) = false := by decide) (he : starEach (e :: es) X.env = (false, eval e X.env) :: starEach es X.env := by rfl)
    (hpl : (backTo pos (starEach es X.env)).any (·.1) = false := by rfl) : PE X (.Call (.Name x p) (e :: es) [] pos) (tCall sp [] E0 t) := by
  obtain ⟨f, fd, ps, F, hm, kp, b⟩ := c.ex
  exact pe_call F (hr.mono hk) hg hm kp b .nil pass0 ha hdb he hpl
theorem run_g {f : Addr} {fd : FuncData} {ps : List Str} {pins : List (Addr × Obj)} {σ : L2.St} {H : Hp} {s : Shared} {Q : VK} {us : List Value} {vs : List V} (F : FnG X.prog X.w X.K X.mg X.base k f fd ps sp) (gd : X.A.guards = some []) (hr : Room k X.A)
    (hb : Binds X.K fd ps []) (I : Inv X pins σ H s) (r : Vals vs us) (h : sp vs H Q E0) : wpAny (model X.prog X.w) X.A (call (.ref f) us) (EP X pins σ Q) X.xe s := by
  have hl : us.length = ps.length := r.length.symm.trans (F.len _ _ _ _ h)
  have hb' := hb s us I.kIn (by rw [List.append_nil]; exact hl)
  rw [List.append_nil] at hb'
  refine wpAny_call (codeAny_mono (F.run X.A X.stack s H ⟨us, []⟩ us vs Q E0 gd hr I.env0 hb' r h) fun r s' hq => ?_)
  match r, hq with
  | .ok (.ret u), hq => exact I.after hq
theorem pe_cG (c : CalG X.prog X.w X.K X.mg X.base k x sp) (gd : X.A.guards = some []) (hr : Room j X.A) (hk : k ≤ j) (hg : Gl X x) (ha : PA X (e :: es) t)
    (hdb : (x == ("__debug__" : Str)) = false := by decide) (he : starEach (e :: es) X.env = (false, eval e X.env) :: starEach es X.env := by rfl)
    (hpl : (backTo pos (starEach es X.env)).any (·.1) = false := by rfl) : PE X (.Call (.Name x p) (e :: es) [] pos) (tCall sp [] E0 t) := by
  obtain ⟨f, fd, ps, F, hm, kp, b⟩ := c.ex
  refine ⟨fun pins s σ H Q I h => ?_⟩
  refine wpAny_Call_Name_kw (ld_glob I hg hm ?_ hdb)
  refine PySem.W.callWith_K (h₀ := X.base) I.ok.mod.kin kp (thn (ha.run pos pins s σ H _ I h) fun us s1 ⟨vs, H1, I1, r, q⟩ => ⟨I1.kIn, ?_⟩) he hpl
  exact run_g F gd (hr.mono hk) b I1 r (List.append_nil vs ▸ (show sp (vs ++ []) H1 Q E0 from q))
/-- a constant of the module -/
theorem pe_gl {v : V} (hg : Gl X x) (h : ∃ u, X.mg x = some u ∧ RelV v u) (hd : (x == ("__debug__" : Str)) = false := by decide) : PE X (.Name x pos) (tC v) := by
  obtain ⟨u, hm, r⟩ := h
  exact pe_glob hg hm r hd
end
section
variable {P : Program} {w : World} {K : PySem.W.Frag} {mg : Str → Option Value} {base : Heap}
theorem Cal.g {k : Nat} {x : Str} {sp : Sp} (c : Cal P w K mg base k x sp) : CalG P w K mg base k x sp := by
  obtain ⟨f, fd, ps, F, hm, kp, b⟩ := c.ex
  exact ⟨f, fd, ps, ⟨F.len, fun A outer s H args us vs Q E _ => F.run A outer s H args us vs Q E⟩, hm, kp, b⟩
theorem cal_of {x : Str} {st : Stmt} {N ps : List Str} {k : Nat} {sp : Sp} (A : At K mg x st) (S : FnScope N ps (defScope st)) (hb : BindEq x st ps)
    (len : ∀ vs H Q E, sp vs H Q E → vs.length = ps.length)
    (hbody : ∀ (f : Addr) (cdv : Value) (A : Around) (outer : List Env) (s : Shared) (H : Hp) (vs : List V) (Q : VK) (E : XK), Room k (A.deeper (envOfC x (defScope st) s.heap.objs.size f cdv)) → sp vs H Q E →
      ∃ t, PSs (cxOf CX0 P w K mg base N x (defScope st) f cdv A outer s H E).nox (defBody st) t ∧ t { nx := fun _ H' => Q .non H', rt := Q } (start N vs) H) : Cal P w K mg base (k + 1) x sp := by
  obtain ⟨f, fd, F, hm⟩ := A
  refine ⟨f, fd, ps, F.ok S len fun cdv A outer s H vs Q E hr h => ?_, hm, F.kp, F.bindsN hb⟩
  obtain ⟨t, h1, h2⟩ := hbody f cdv A outer s H vs Q E hr h
  exact ⟨t, h1.nox, h2⟩
theorem fnG_of {x : Str} {st : Stmt} {N ps : List Str} {k : Nat} {sp : Sp} {f : Addr} {fd : FuncData} (F : FunD K x x (defArgs st) (defBody st) (defScope st) [] [] f fd) (S : FnScope N ps (defScope st))
    (len : ∀ vs H Q E, sp vs H Q E → vs.length = ps.length)
    (hbody : ∀ (cdv : Value) (A : Around) (outer : List Env) (s : Shared) (H : Hp) (vs : List V) (Q : VK) (E : XK), (A.deeper (envOfC x (defScope st) s.heap.objs.size f cdv)).guards = some [] → Room k (A.deeper (envOfC x (defScope st) s.heap.objs.size f cdv)) → sp vs H Q E →
      ∃ t, PSs (cxOf CX0 P w K mg base N x (defScope st) f cdv A outer s H E).nox (defBody st) t ∧ t { nx := fun _ H' => Q .non H', rt := Q } (start N vs) H) : FnG P w K mg base (k + 1) f fd ps sp := by
  refine ⟨len, fun A outer s H args us vs Q E gd hr e0 hb r hsp => ?_⟩
  obtain ⟨oc, od, dV, kV, doc, pm, an, cdv, ct, osl, rfl, lk, hcd, -, -⟩ := F.ex
  have kin : ∀ b o, base.get? b = some o → s.heap.get? b = some o := fun b o e => (e0.bs b o e).1
  have KX : K.In s.heap := e0.mod.kin.keeps kin
  refine codeAny_call_function hr.depth (KX _ _ lk) rfl S.co S.gen rfl (PySem.W.codeRec_of KX hcd) (hb _ _ _ _ ?_)
  refine wpAny_newFunctionEnv_cells S.kind (fun y hy => (S.par y.1 (List.of_mem_zip hy).1).imp id fun q => ⟨q, PySem.W.cellsFrom_some _ _ _ (.inl q)⟩) fun env he s1 ic => ?_
  cases he
  refine ⟨(e0.mod.nolimit.keeps kin).keeps ic.toInCall.keep, codeAny_func ?_⟩
  obtain ⟨t, ht, hq⟩ := hbody cdv A outer s H vs Q E gd (hr.deeper _) hsp
  have I : Inv (cxOf CX0 P w K mg base N x (defScope st) f cdv A outer s H E) [] (start N vs) H s1 := inv_start S hr.hd e0 (len _ _ _ _ hsp) r ic
  refine wpAny_mono (ht.nox.run [] s1 (start N vs) H _ I hq) (fun fl s' hs => ?_) fun _ _ hs => hs
  match fl, hs with
  | .ret u, ⟨v, σ', H', J, rv, q⟩ => exact ⟨v, H', J.os, J.bare, J.base, J.hok, rv, q⟩
  | .next, ⟨σ', H', J, q⟩ => exact ⟨V.non, H', J.os, J.bare, J.base, J.hok, rfl, q⟩
  | .brk, ⟨_, _, _, q⟩ => exact q.elim
  | .cont, ⟨_, _, _, q⟩ => exact q.elim
theorem calG_of {x : Str} {st : Stmt} {N ps : List Str} {k : Nat} {sp : Sp} (A : At K mg x st) (S : FnScope N ps (defScope st)) (hb : BindEq x st ps)
    (len : ∀ vs H Q E, sp vs H Q E → vs.length = ps.length)
    (hbody : ∀ (f : Addr) (cdv : Value) (A : Around) (outer : List Env) (s : Shared) (H : Hp) (vs : List V) (Q : VK) (E : XK), (A.deeper (envOfC x (defScope st) s.heap.objs.size f cdv)).guards = some [] → Room k (A.deeper (envOfC x (defScope st) s.heap.objs.size f cdv)) → sp vs H Q E →
      ∃ t, PSs (cxOf CX0 P w K mg base N x (defScope st) f cdv A outer s H E).nox (defBody st) t ∧ t { nx := fun _ H' => Q .non H', rt := Q } (start N vs) H) : CalG P w K mg base (k + 1) x sp := by
  obtain ⟨f, fd, F, hm⟩ := A
  exact ⟨f, fd, ps, fnG_of F S len (hbody f), hm, F.kp, F.bindsN hb⟩
end
end MN
namespace MN
open PySem L2
def top (i : Nat) : Stmt := PySem.Challenge.pw_mendnumber_k05_changes_told.main.body.getD i (.Pass ⟨0, 0, 0, 0⟩)
end MN
/-! comprehensions whose tests and items leave the heap as it is -/
namespace MN
open PySem PySem.Spec PyProof.Rows L2
theorem seqL_upd {K : PySem.W.Frag} {H : Hp} {a D : Addr} {xs : List V} {o : HO} (h : SqL K H a xs) (hD : H D = none) : SqL K (upd H D o) a xs := by
  rcases h with (h | ⟨o, h⟩) | h
  · exact .inl (.inl (by rw [upd_ne (ne_of_none h hD)]; exact h))
  · exact .inl (.inr ⟨o, by rw [upd_ne (ne_of_none h hD)]; exact h⟩)
  · exact .inr h
theorem seqT_upd {K : PySem.W.Frag} {H : Hp} {a D : Addr} {xs : List V} {o : HO} (h : SqT K H a xs) (hD : H D = none) : SqT K (upd H D o) a xs := by
  rcases h with (h | ⟨o, h⟩) | h
  · exact .inl (.inl (by rw [upd_ne (ne_of_none h hD)]; exact h))
  · exact .inl (.inr ⟨o, by rw [upd_ne (ne_of_none h hD)]; exact h⟩)
  · exact .inr h
theorem Same.seqT {K : PySem.W.Frag} {H H' : Hp} {a : Addr} {xs : List V} (e : Same H H') (h : SqT K H a xs) : SqT K H' a xs := by
  rcases h with (h | ⟨o, h⟩) | h
  · exact .inl (.inl (e _ _ h))
  · exact .inl (.inr ⟨o, e _ _ h⟩)
  · exact .inr h
/-- the reading of a comprehension, from where its source's walk is known -/
abbrev LcGoal (J : It) (g : TG) (tt : TT) (te : TE) (vs : List Nat) (σ : L2.St) (H1 : Hp) (D : Addr) (Qd : Hp → Prop) : Prop := ∃ W : Nat → Nat → Hp → Prop, (∃ m, W 0 m (upd H1 D (.lst []))) ∧ ∀ i m H, W i m H →
  (J.stop i H ∧ Qd H) ∨ (J.go i H ∧ ∃ Nx : Hp → Prop, (∀ H', Nx H' → ∃ m', m' < m ∧ W (i + 1) m' H') ∧ ∀ x H', J.yld i H x H' → g x (wipe σ vs) H' fun σ2 H2 => wipe σ2 vs = wipe σ vs ∧ tt σ2 H2 fun b H3 =>
    if b = true then te σ2 H3 fun y H4 => ∃ acc, H4 D = some (.lst acc) ∧ acc.length < sizeLine ∧ Nx (upd H4 D (.lst (acc ++ [y]))) else Nx H3)
theorem lc_pure {J : It} {n : Nat} {G : Hp → Prop} {Y : Nat → Hp → V → Hp → Prop} (w : Walk J n G Y) (xs : List V) (hn : xs.length = n) (hz : n ≤ 1000000) (hY : ∀ i H x H', i < n → Y i H x H' → H' = H ∧ xs[i]? = some x)
    {j : Nat} {tt : TT} {te : TE} {vs : List Nat} {σ : L2.St} {H1 : Hp} {D : Addr} {Qd : Hp → Prop} (f : V → Bool) (v : V → V) (hG : ∀ acc, G (upd H1 D (.lst acc)))
    (hw : ∀ x ∈ xs, wipe ((wipe σ vs).set j (some x)) vs = wipe σ vs)
    (ht : ∀ x ∈ xs, ∀ (acc : List V) (Q : Bool → Hp → Prop), Q (f x) (upd H1 D (.lst acc)) → tt ((wipe σ vs).set j (some x)) (upd H1 D (.lst acc)) Q)
    (he : ∀ x ∈ xs, f x = true → ∀ (acc : List V) (Q : VK), Q (v x) (upd H1 D (.lst acc)) → te ((wipe σ vs).set j (some x)) (upd H1 D (.lst acc)) Q)
    (hd : Qd (upd H1 D (.lst ((xs.filter f).map v)))) : LcGoal J (gName j) tt te vs σ H1 D Qd := by
  refine lc_it w (fun i H' => H' = upd H1 D (.lst (((xs.take i).filter f).map v))) (by rw [List.take_zero]; rfl) (fun i H' _ e => by rw [e]; exact hG _) (fun i x H H' hi e y => ?_) (fun H' e => ?_)
  · obtain ⟨rfl, hx⟩ := hY i H x H' hi y
    subst e
    have hm : x ∈ xs := List.mem_of_getElem? hx
    have tk : xs.take (i + 1) = xs.take i ++ [x] := by rw [List.take_add_one, hx]; rfl
    refine ⟨hw x hm, ht x hm _ _ ?_⟩
    cases hf : f x with
    | false =>
      refine iteF ?_
      rw [tk, List.filter_append, List.filter_cons, hf]
      simp
    | true =>
      refine iteT (he x hm hf _ _ ⟨_, upd_same, ?_, ?_⟩)
      · rw [List.length_map]
        refine Nat.lt_of_le_of_lt (List.length_filter_le _ _) (Nat.lt_of_le_of_lt (List.length_take_le _ _) ?_)
        have : 1000000 < sizeLine := by decide
        omega
      · rw [upd_upd, tk, List.filter_append, List.filter_cons, hf]
        simp
  · rw [e, ← hn, List.take_length]
    exact hd
section
variable {K : PySem.W.Frag} {j : Nat} {tt : TT} {te : TE} {vs : List Nat} {σ : L2.St} {H1 : Hp} {D a : Addr} {Qd : Hp → Prop}
def signsOf (z : Str) : List V := z.cps.toList.map fun c => V.str ⟨#[c]⟩
theorem lc_str {z : Str} (hz : z.length ≤ 1000000) (f : V → Bool) (v : V → V) (hw : ∀ x ∈ signsOf z, wipe ((wipe σ vs).set j (some x)) vs = wipe σ vs)
    (ht : ∀ x ∈ signsOf z, ∀ (acc : List V) (Q : Bool → Hp → Prop), Q (f x) (upd H1 D (.lst acc)) → tt ((wipe σ vs).set j (some x)) (upd H1 D (.lst acc)) Q)
    (he : ∀ x ∈ signsOf z, f x = true → ∀ (acc : List V) (Q : VK), Q (v x) (upd H1 D (.lst acc)) → te ((wipe σ vs).set j (some x)) (upd H1 D (.lst acc)) Q)
    (hd : Qd (upd H1 D (.lst (((signsOf z).filter f).map v)))) : LcGoal (Its z) (gName j) tt te vs σ H1 D Qd := by
  refine lc_pure walk_str (signsOf z) (by simp [signsOf]) hz (fun i H x H' hi y => ?_) f v (fun _ => trivial) hw ht he hd
  obtain ⟨e, c, hc, rfl⟩ := y
  refine ⟨e, ?_⟩
  simp [signsOf, hc]
theorem lc_lst {xs : List V} (hs : SqL K H1 a xs) (hD : H1 D = none) (hz : xs.length ≤ 1000000) (f : V → Bool) (v : V → V) (hw : ∀ x ∈ xs, wipe ((wipe σ vs).set j (some x)) vs = wipe σ vs)
    (ht : ∀ x ∈ xs, ∀ (acc : List V) (Q : Bool → Hp → Prop), Q (f x) (upd H1 D (.lst acc)) → tt ((wipe σ vs).set j (some x)) (upd H1 D (.lst acc)) Q)
    (he : ∀ x ∈ xs, f x = true → ∀ (acc : List V) (Q : VK), Q (v x) (upd H1 D (.lst acc)) → te ((wipe σ vs).set j (some x)) (upd H1 D (.lst acc)) Q)
    (hd : Qd (upd H1 D (.lst ((xs.filter f).map v)))) : LcGoal (Itl K a) (gName j) tt te vs σ H1 D Qd :=
  lc_pure walk_list xs rfl hz (fun _ _ _ _ _ y => y) f v (fun _ => seqL_upd hs hD) hw ht he hd
theorem lc_tpl {xs : List V} (hs : SqT K H1 a xs) (hD : H1 D = none) (hz : xs.length ≤ 1000000) (f : V → Bool) (v : V → V) (hw : ∀ x ∈ xs, wipe ((wipe σ vs).set j (some x)) vs = wipe σ vs)
    (ht : ∀ x ∈ xs, ∀ (acc : List V) (Q : Bool → Hp → Prop), Q (f x) (upd H1 D (.lst acc)) → tt ((wipe σ vs).set j (some x)) (upd H1 D (.lst acc)) Q)
    (he : ∀ x ∈ xs, f x = true → ∀ (acc : List V) (Q : VK), Q (v x) (upd H1 D (.lst acc)) → te ((wipe σ vs).set j (some x)) (upd H1 D (.lst acc)) Q)
    (hd : Qd (upd H1 D (.lst ((xs.filter f).map v)))) : LcGoal (Itt K a) (gName j) tt te vs σ H1 D Qd :=
  lc_pure walk_tup xs rfl hz (fun _ _ _ _ _ y => y) f v (fun _ => seqT_upd hs hD) hw ht he hd
def rangeV (n : Nat) : List V := (List.range n).map fun (i : Nat) => V.int (i : Int)
theorem lc_rng {n : Nat} (hz : n ≤ 1000000) (f : V → Bool) (v : V → V) (hw : ∀ x ∈ rangeV n, wipe ((wipe σ vs).set j (some x)) vs = wipe σ vs)
    (ht : ∀ x ∈ rangeV n, ∀ (acc : List V) (Q : Bool → Hp → Prop), Q (f x) (upd H1 D (.lst acc)) → tt ((wipe σ vs).set j (some x)) (upd H1 D (.lst acc)) Q)
    (he : ∀ x ∈ rangeV n, f x = true → ∀ (acc : List V) (Q : VK), Q (v x) (upd H1 D (.lst acc)) → te ((wipe σ vs).set j (some x)) (upd H1 D (.lst acc)) Q)
    (hd : Qd (upd H1 D (.lst (((rangeV n).filter f).map v)))) : LcGoal (Itr 0 n) (gName j) tt te vs σ H1 D Qd := by
  refine lc_pure (walk_range (lo := 0)) (rangeV n) (by simp [rangeV]) hz (fun i H x H' hi y => ?_) f v (fun _ => trivial) hw ht he hd
  obtain ⟨e1, e2⟩ := y
  refine ⟨e1, ?_⟩
  simp [rangeV, hi, e2]
end
/-- tests and items may lay new objects -/
theorem lc_ext {J : It} {n : Nat} {G : Hp → Prop} {Y : Nat → Hp → V → Hp → Prop} (w : Walk J n G Y) (xs : List V) (hn : xs.length = n) (hz : n ≤ 1000000) (hY : ∀ i H x H', i < n → Y i H x H' → H' = H ∧ xs[i]? = some x)
    {j : Nat} {tt : TT} {te : TE} {vs : List Nat} {σ : L2.St} {H1 : Hp} {D : Addr} {Qd : Hp → Prop} (hD : H1 D = none) (f : V → Bool) (v : V → V) (hG : ∀ H', Same H1 H' → G H')
    (hw : ∀ x ∈ xs, wipe ((wipe σ vs).set j (some x)) vs = wipe σ vs)
    (ht : ∀ x ∈ xs, ∀ H2, Same H1 H2 → ∀ (Q : Bool → Hp → Prop), (∀ H3, Same H2 H3 → Q (f x) H3) → tt ((wipe σ vs).set j (some x)) H2 Q)
    (he : ∀ x ∈ xs, f x = true → ∀ H2, Same H1 H2 → ∀ (Q : VK), (∀ H3, Same H2 H3 → Q (v x) H3) → te ((wipe σ vs).set j (some x)) H2 Q)
    (hd : ∀ H', Same H1 H' → H' D = some (.lst ((xs.filter f).map v)) → Qd H') : LcGoal J (gName j) tt te vs σ H1 D Qd := by
  refine lc_it w (fun i H' => Same H1 H' ∧ H' D = some (.lst (((xs.take i).filter f).map v))) ⟨fun b o e => by rw [upd_ne (ne_of_none e hD)]; exact e, by rw [List.take_zero]; exact upd_same⟩ (fun i H' _ e => hG _ e.1) (fun i x H H' hi e y => ?_) (fun H' e => ?_)
  · obtain ⟨rfl, hx⟩ := hY i H x H' hi y
    obtain ⟨e1, e2⟩ := e
    have hm : x ∈ xs := List.mem_of_getElem? hx
    have tk : xs.take (i + 1) = xs.take i ++ [x] := by rw [List.take_add_one, hx]; rfl
    refine ⟨hw x hm, ht x hm _ e1 _ fun H3 e3 => ?_⟩
    cases hf : f x with
    | false =>
      refine iteF ⟨e1.trans e3, ?_⟩
      rw [tk, List.filter_append, List.filter_cons, hf]
      simpa using e3 _ _ e2
    | true =>
      refine iteT (he x hm hf _ (e1.trans e3) _ fun H4 e4 => ⟨_, e4 _ _ (e3 _ _ e2), ?_, fun b o q => ?_, ?_⟩)
      · rw [List.length_map]
        refine Nat.lt_of_le_of_lt (List.length_filter_le _ _) (Nat.lt_of_le_of_lt (List.length_take_le _ _) ?_)
        have : 1000000 < sizeLine := by decide
        omega
      · rw [upd_ne (ne_of_none q hD)]
        exact e4 _ _ (e3 _ _ (e1 _ _ q))
      · rw [upd_same, tk, List.filter_append, List.filter_cons, hf]
        simp
  · rw [← hn, List.take_length] at e
    exact hd H' e.1 e.2
section
variable {K : PySem.W.Frag} {j : Nat} {tt : TT} {te : TE} {vs : List Nat} {σ : L2.St} {H1 : Hp} {D a : Addr} {Qd : Hp → Prop}
theorem lc_tplE {xs : List V} (hs : SqT K H1 a xs) (hD : H1 D = none) (hz : xs.length ≤ 1000000) (f : V → Bool) (v : V → V) (hw : ∀ x ∈ xs, wipe ((wipe σ vs).set j (some x)) vs = wipe σ vs)
    (ht : ∀ x ∈ xs, ∀ H2, Same H1 H2 → ∀ (Q : Bool → Hp → Prop), (∀ H3, Same H2 H3 → Q (f x) H3) → tt ((wipe σ vs).set j (some x)) H2 Q)
    (he : ∀ x ∈ xs, f x = true → ∀ H2, Same H1 H2 → ∀ (Q : VK), (∀ H3, Same H2 H3 → Q (v x) H3) → te ((wipe σ vs).set j (some x)) H2 Q)
    (hd : ∀ H', Same H1 H' → H' D = some (.lst ((xs.filter f).map v)) → Qd H') : LcGoal (Itt K a) (gName j) tt te vs σ H1 D Qd :=
  lc_ext walk_tup xs rfl hz (fun _ _ _ _ _ y => y) hD f v (fun _ e => Same.seqT e hs) hw ht he hd
theorem lc_lstE {xs : List V} (hs : SqL K H1 a xs) (hD : H1 D = none) (hz : xs.length ≤ 1000000) (f : V → Bool) (v : V → V) (hw : ∀ x ∈ xs, wipe ((wipe σ vs).set j (some x)) vs = wipe σ vs)
    (ht : ∀ x ∈ xs, ∀ H2, Same H1 H2 → ∀ (Q : Bool → Hp → Prop), (∀ H3, Same H2 H3 → Q (f x) H3) → tt ((wipe σ vs).set j (some x)) H2 Q)
    (he : ∀ x ∈ xs, f x = true → ∀ H2, Same H1 H2 → ∀ (Q : VK), (∀ H3, Same H2 H3 → Q (v x) H3) → te ((wipe σ vs).set j (some x)) H2 Q)
    (hd : ∀ H', Same H1 H' → H' D = some (.lst ((xs.filter f).map v)) → Qd H') : LcGoal (Itl K a) (gName j) tt te vs σ H1 D Qd :=
  lc_ext walk_list xs rfl hz (fun _ _ _ _ _ y => y) hD f v (fun _ e => Same.seq e hs) hw ht he hd
end
theorem yes_q {σ : L2.St} {H : Hp} {Q : Bool → Hp → Prop} (h : Q true H) : tYes σ H Q := h
theorem filter_all {xs : List V} : xs.filter (fun _ => true) = xs := by simp
end MN
namespace MN
open PySem PySem.Spec PyProof.Rows L2
/-- the built-in names that no def of the module hides; the signs -/
structure Blt (mg : Str → Option Value) : Prop where
  isinstance : mg "isinstance" = none
  str : mg "str" = none
  len : mg "len" = none
  all : mg "all" = none
  tuple : mg "tuple" = none
  int : mg "int" = none
  bool : mg "bool" = none
  list : mg "list" = none
  dict : mg "dict" = none
  range : mg "range" = none
  sorted : mg "sorted" = none
  zip : mg "zip" = none
  max : mg "max" = none
  min : mg "min" = none
  abs : mg "abs" = none
  repr : mg "repr" = none
  sum : mg "sum" = none
  any : mg "any" = none
  set : mg "set" = none
  enumerate : mg "enumerate" = none
  SIGNS : ∃ u, mg "SIGNS" = some u ∧ RelV (.str "abcde") u
def bltNames : List Str := ([("isinstance" : Str), ("str" : Str), ("len" : Str), ("all" : Str), ("tuple" : Str), ("int" : Str), ("bool" : Str), ("list" : Str)] : List Str) ++ ([("dict" : Str), ("range" : Str), ("sorted" : Str), ("zip" : Str), ("max" : Str), ("min" : Str), ("abs" : Str), ("repr" : Str)] : List Str) ++ ([("sum" : Str), ("any" : Str), ("set" : Str), ("enumerate" : Str)] : List Str)
theorem Blt.of {mg : Str → Option Value} (h : ∀ x ∈ bltNames, mg x = none) (hs : ∃ u, mg "SIGNS" = some u ∧ RelV (.str "abcde") u) : Blt mg := by
  refine ⟨h _ ?_, h _ ?_, h _ ?_, h _ ?_, h _ ?_, h _ ?_, h _ ?_, h _ ?_, h _ ?_, h _ ?_, h _ ?_, h _ ?_, h _ ?_, h _ ?_, h _ ?_, h _ ?_, h _ ?_, h _ ?_, h _ ?_, h _ ?_, hs⟩ <;> simp [bltNames]
end MN
/-! rules of one's own: repr of data, powers, texts repeated, a tuple turned round -/
namespace MN
open PySem PySem.Spec PyProof.Rows L2
section
variable {X : Cx}
/-- repr of lists and tuples of data -/
def rRepr (K : PySem.W.Frag) : List V → Hp → VK → Prop := fun xs H Q => ∃ (x : V) (d : PyData), xs = [x] ∧ Dp K H x d ∧ isDisplay d = true ∧ d.showable = true ∧ d.hasDict = false ∧ d.depth ≤ 60 ∧ d.shown.length ≤ sizeLine ∧ Q (.str d.shown) H
theorem call_repr (gd : X.A.guards = some []) (hu : X.A.units + 64 < cLine) : CallR X (.builtin "repr") (rRepr X.K) := by
  intro pins s σ H vs us Q I r h
  obtain ⟨x, d, rfl, hd, h1, h2, h3, h4, h5, q⟩ := h
  cases r with
  | cons rx rn =>
    cases rn
    obtain ⟨as, rd⟩ := Dp.reads I d x _ hd rx
    obtain ⟨a, rfl⟩ := isRef_of_reads rd h1
    refine repr_of_reads' rd h2 (PyData.noDict_hsm h3) gd (by omega) (fun _ _ e => e) (fun h' u tk hk => ?_) h5
    exact ⟨.str d.shown, H, I.kept hk, ⟨u, rfl⟩, q⟩
/-- i ** j, as far as the bits go -/
theorem op_powB : OpR X (binaryOp .Pow) (rI (fun i j => 0 ≤ j ∧ (Builtin.Int.intBits i : Int) * j ≤ 2 ^ 27) fun i j => .int (i ^ j.toNat)) := opI fun _ _ _ _ _ _ _ hc q => pow_int hc.1 hc.2 q
/-- s * n -/
def repS (z : Str) (n : Int) : Str := ⟨((List.replicate n.toNat z.cps.toList).flatten).toArray⟩
theorem foldl_app (l : List (Array Nat)) : ∀ a : Array Nat, (l.foldl (· ++ ·) a).toList = a.toList ++ (l.map Array.toList).flatten := by
  induction l with
  | nil => intro a; simp
  | cons x l ih => intro a; rw [List.foldl_cons, ih]; simp
theorem repS_length (z : Str) (n : Int) : (repS z n).length = n.toNat * z.length := by
  simp [repS, Str.length]
def rRepS : R2 := fun x y H Q => ∃ (z : Str) (n : Int), x = .str z ∧ y = .int n ∧ 0 ≤ n ∧ n ≤ 100000 ∧ z.length ≤ 100 ∧ Q (.str (repS z n)) H
theorem op_repS : OpR X (binaryOp .Mult) rRepS := by
  intro pins s σ H x y v u Q I rx ry h
  obtain ⟨z, n, rfl, rfl, h0, h1, h2, q⟩ := h
  obtain ⟨t, rfl⟩ := rx
  obtain ⟨t2, rfl⟩ := ry
  have hb : z.length * n.toNat ≤ 100 * 100000 := Nat.mul_le_mul h2 (by omega)
  have hl : Builtin.Str.tooLong (z.length * n.toNat) = false := by
    have h9 : z.length * n.toNat ≤ sizeLine := Nat.le_trans hb (by decide)
    exact decide_eq_false (by omega)
  have hdiv : ¬ n < 1 → ¬ ((z.length : Int) > (2 ^ 63 - 1) / n) := fun hn => by
    have e : (100 : Int) ≤ (2 ^ 63 - 1) / n := (Int.le_ediv_iff_mul_le (by omega)).mpr (by omega)
    omega
  refine P.mul_str (by simp only [Bool.or_eq_false_iff, decide_eq_false_iff_not]; omega) (fun hn _ => hdiv hn) (fun _ _ => hl) ?_
  by_cases c1 : n < 1
  · have e : repS z n = Str.empty := by
      have : n.toNat = 0 := by omega
      simp [repS, this, Str.empty]
    rw [if_pos c1]
    rw [e] at q
    exact ⟨by decide, .str Str.empty, H, I.tok _, ⟨_, rfl⟩, q⟩
  · rw [if_neg c1]
    by_cases c2 : (n == 1 || z.length == 0) = true
    · rw [if_pos c2]
      have e : repS z n = z := by
        rw [Bool.or_eq_true] at c2
        rcases c2 with c2 | c2
        · have : n = 1 := eq_of_beq c2
          subst this
          simp [repS]
        · have hz : z.cps.toList = [] := by
            have : z.cps.size = 0 := eq_of_beq c2
            simpa using this
          obtain ⟨⟨l⟩⟩ := z
          cases hz
          simp [repS]
      rw [e] at q
      exact ⟨.str z, H, I, ⟨_, rfl⟩, q⟩
    · rw [if_neg c2]
      have e : (⟨(List.replicate n.toNat z.cps).foldl (· ++ ·) #[]⟩ : Str) = repS z n := by
        have := foldl_app (List.replicate n.toNat z.cps) #[]
        simp only [repS]
        congr 1
        apply Array.toList_inj.mp
        rw [this]
        simp
      rw [e]
      refine ⟨?_, .str (repS z n), H, I.tok _, ⟨_, rfl⟩, q⟩
      show (repS z n).length ≤ sizeLine
      rw [repS_length, Nat.mul_comm]
      exact Nat.le_trans hb (by decide)
/-! ### rules in a comprehension's block: the text's facts K are given by name -/
section
variable {K : PySem.W.Frag} (hK : X.K = K)
include hK
theorem lenK : CallR X (.builtin "len") (fun xs H Q => ∃ p ys, xs = [.ref p] ∧ (SqL K H p ys ∨ SqT K H p ys) ∧ Q (.int (ys.length : Nat)) H) := hK ▸ call_len_seq
theorem allK (hc : X.calm = true) : CallR X (.builtin "all") (rAll K) := hK ▸ cr_all hc
theorem isiK : CallR X (.builtin "isinstance") (rIsi K) := hK ▸ call_isi
theorem ixLK : IxR X (rIxL K) := hK ▸ ix_list
theorem ixTK : IxR X (rIxT K) := hK ▸ ix_tup
theorem inSeqK : OpR X (compareOp .In) (rIn K false) := hK ▸ op_in_seq
theorem notInSeqK : OpR X (compareOp .NotIn) (rIn K true) := hK ▸ op_notIn_seq
end
/-! ### methods of lists, the context a letter -/
section
variable {o e : Expr} {to te : TE} {apos cpos : Pos}
theorem pe_popAt (K : PySem.W.Frag) (hK : X.K = K) (ho : PE X o to) (he : PE X e te)
    (hbase : attributeBase o "pop" X.env (eval o X.env) = eval o X.env := by rfl)
    (hfew : ((backTo cpos (starEach [e] X.env)).all (fun x => !x.1) && (backToKw cpos (keywordEach [] X.env)).all (fun x => x.1.isSome) && decide ([e].length + ([] : List Keyword).length + (if ([] : List Keyword).isEmpty then 0 else 1) < 30)) = true := by rfl)
    (hline : (apos.endLine == cpos.line) = true := by rfl) (hs : starEach [e] X.env = (false, eval e X.env) :: starEach [] X.env := by rfl) : PE X (.Call (.Attribute o "pop" apos) [e] [] cpos) (tBM K "list" rPopAt to (tCons te tNil)) := hK ▸ pe_bm PySem.F.plainAttrs_list PySem.F.slot_list_pop PySem.F.type_list_pop mt_popAt ho (pa_cons he pa_nil hs) hbase hfew hline hs rfl
theorem pe_append (K : PySem.W.Frag) (hK : X.K = K) (ho : PE X o to) (he : PE X e te)
    (hbase : attributeBase o "append" X.env (eval o X.env) = eval o X.env := by rfl)
    (hfew : ((backTo cpos (starEach [e] X.env)).all (fun x => !x.1) && (backToKw cpos (keywordEach [] X.env)).all (fun x => x.1.isSome) && decide ([e].length + ([] : List Keyword).length + (if ([] : List Keyword).isEmpty then 0 else 1) < 30)) = true := by rfl)
    (hline : (apos.endLine == cpos.line) = true := by rfl) (hs : starEach [e] X.env = (false, eval e X.env) :: starEach [] X.env := by rfl) : PE X (.Call (.Attribute o "append" apos) [e] [] cpos) (tBM K "list" rAppend to (tCons te tNil)) := hK ▸ pe_bm PySem.F.plainAttrs_list PySem.F.slot_list_append PySem.F.type_list_append mt_append ho (pa_cons he pa_nil hs) hbase hfew hline hs rfl
end
end
end MN
/-! list(d.values()); a class called through a local name; what is never evaluated -/
namespace MN
open PySem PySem.Spec PyProof.Rows L2
section
variable {X : Cx}
def tNo : TE := fun _ _ _ => False
theorem pe_no {e : Expr} : PE X e tNo := ⟨fun _ _ _ _ _ _ h => h.elim⟩
theorem pi_no {tg e : Expr} : PI X tg e (fun _ _ _ => False) := ⟨fun _ _ _ _ _ _ h => h.elim⟩
def tListVals (te : TE) : TE := fun σ H Q => te σ H fun x H1 => ∃ (d : Addr) (kvs : List (Key × V)), x = .ref d ∧ H1 d = some (.dK kvs) ∧ ∀ q, H1 q = none → Q (.ref q) (upd H1 q (.lst (kvs.map (·.2))))
theorem kv_vals : ∀ {kvs : List (Key × V)} {vs : List (Key × Value)}, KV kvs vs → Vals (kvs.map (·.2)) (vs.map (·.2))
  | [], [], _ => .nil
  | _ :: _, _ :: _, .cons h t => .cons h.2 (kv_vals t)
variable {e : Expr} {te : TE} {p apos cpos pos : Pos}
/-- list(e.values()) -/
theorem pe_listVals (hc : X.calm = true) (he : PE X e te) (hg : Gl X "list") (hm : X.mg "list" = none) (hbase : attributeBase e "values" X.env (eval e X.env) = eval e X.env := by rfl) (hline : (apos.endLine == cpos.line) = true := by rfl)
    (hs : starEach [.Call (.Attribute e "values" apos) [] [] cpos] X.env = (false, eval (.Call (.Attribute e "values" apos) [] [] cpos) X.env) :: starEach [] X.env := by rfl) :
    PE X (.Call (.Name "list" p) [.Call (.Attribute e "values" apos) [] [] cpos] [] pos) (tListVals te) := by
  refine ⟨fun pins s σ H Q I hq => ?_⟩
  refine wpAny_Call_Name_kw (ld_blt I hg hm boot_list ?_)
  refine PyProof.Rows.callWith_type1 ?_ hs rfl
  rw [hs]
  show wpAny _ _ (spliced ((false, eval (.Call (.Attribute e "values" apos) [] [] cpos) X.env) :: backTo pos (starEach [] X.env))) _ _ s
  refine Calls.spliced_cons ?_
  refine wpAny_Call_method (T := "dict") (id := "dict.values") hbase rfl hline F.plainAttrs_dict F.slot_dict_values F.type_dict_values (thn (he.run pins s σ H _ I hq) fun u s1 ⟨x, H1, I1, rx, d, kvs, ex, hd, q⟩ => ?_)
  subst ex
  obtain rfl : u = Value.ref d := rx
  obtain ⟨hz, hs0, vs, kv, hdo⟩ := I1.hok d _ hd
  obtain ⟨ep, hat⟩ := hdo.dictAt
  have lk : kvs.length = vs.length := Paired.length kv
  have I2 : Inv X pins σ H1 { s1 with heap := s1.heap.push { cls := .type "dict_values", data := .fields #[.ref d] } } := I1.kept (t' := s1.toks) fun b ob q => Heap.get?_push_of_some _ q
  refine ⟨hdo.typeIs, hdo.mapOf.noDict, ?_⟩
  show wpAny _ _ (callWith cpos (.builtin "dict.values") [.ref d] [] []) _ X.xe s1
  refine method_meetsIn F.slot_dict_values F.entry_dict_values rfl (PySem.evalArgs_none ⟨rfl, hdo.typeIs, F.args_dict_values_1 _, _, meets_dict_values (mixKind X.prog X.w) d hs0, ⟨vs, hdo⟩, ?_⟩)
  refine Calls.spliced_nil ?_
  refine PySem.W.kdl_call (PySem.W.kdl_values (knd := mixKind X.prog X.w) (kvs := vs) (ep := ep)) (I1.ok.hd hc) ⟨⟨_, Heap.get?_push_size _ rfl, rfl, rfl⟩, hat.push _⟩ (by rw [← lk]; exact hz) fun h' tk acc' c' hkeep hS hacc => ?_
  have el : acc'.toList.length = acc'.size := by simp
  have ev : acc'.toList = vs.map (·.2) := PySem.W.kdl_vals_eq acc'.toList (by rw [el, hacc.1]) fun j v h2 => hacc.2 j v (by rw [← Array.getElem?_toList]; exact h2)
  refine ⟨.ref _, upd H1 _ (.lst (kvs.map (·.2))), I2.laid hkeep (Nat.le_refl _) (show ObjOk X.prog X.w _ _ _ (.lst (kvs.map (·.2))) from ⟨?_, acc'.toList, c', ?_, ?_⟩), rfl, q _ (I2.hok.fresh (Nat.le_refl _))⟩
  · rw [List.length_map]; exact hz
  · rw [ev]; exact kv_vals kv
  · rw [Array.toArray_toList]; exact hS
end
section
variable {X : Cx} {CX : CXT} {k i : Nat} {f C : Addr} {fd : FuncData} {ps ks : List Str} {sp : Sp} {E : XK} {x : Str} {p pos : Pos} {kws : List Keyword} {tk : TA} {g : List Value → List Value → List Value} {gV : List V → List V → List V}
/-- the class that the i-th slot holds, called by keywords alone -/
def tMakeKL (i : Nat) (C : Addr) (m : Nat) (sp : Sp) (gV : List V → List V → List V) (E : XK) (tk : TA) : TE := fun σ H Q => σ[i]? = some (some (.ref C)) ∧ tMakeK C 0 m sp gV E tNil tk σ H Q
theorem pe_makeKL (M : Mk X.K C f) (F : FnOk X.prog X.w X.K X.mg X.base CX k f fd ps sp) (hr : Room (k + 1) X.A) (hN : X.N[i]? = some x) (hv : Vis X.env.scope x) (hb : KBn X.K fd ps 1 ks g gV) (hx : Passes CX X E) (hkw : PK X kws tk)
    (hall : (backToKw pos (keywordEach kws X.env)).all (·.1.isSome) = true := by rfl) (hks : (backToKw pos (keywordEach kws X.env)).filterMap (·.1) = ks := by rfl) (hdb : (x == ("__debug__" : Str)) = false := by decide) (hcd : (x == ("__classdict__" : Str)) = false := by decide)
    (hpl : ((backTo pos (starEach [] X.env)).any (·.1) || (backToKw pos (keywordEach kws X.env)).any (·.1.isNone)) = false := by rfl) :
    PE X (.Call (.Name x p) [] kws pos) (tMakeKL i C ks.length sp gV E tk) := by
  refine ⟨fun pins s σ H Q I h => ?_⟩
  obtain ⟨hs, h⟩ := h
  refine wpAny_Call_Name_kw (thn ((pe_var (pos := p) hN hv hdb hcd).run pins s σ H (fun v H1 => v = .ref C ∧ H1 = H) I ⟨.ref C, hs, rfl, rfl⟩) fun u s1 ⟨v, H1, I1, r1, q1⟩ => ?_)
  obtain ⟨rfl, rfl⟩ := q1
  cases r1
  refine PySem.W.callWith_KW0 (h₀ := X.base) I.ok.mod.kin M.kp hall ?_ hpl
  refine thn (hkw.run pos pins s1 σ _ _ I1 h) fun ws s2 ⟨zs, H2, I2, rz, l1, l2, q2⟩ => ⟨I2.kIn, ?_⟩
  rw [hks]
  exact run_makeK (us := []) (vs := []) M F hr hb hx I2 .nil rz rfl l2 q2
end
/-! ### isinstance(value, str) where value may be an instance with slots -/
/-- an instance with slots, of a class that is no text -/
def SlNo (K : PySem.W.Frag) (H : Hp) (v : V) (u : Value) : Prop := ∃ a C dx vs, v = .ref a ∧ SlX.Slt H a C dx vs ∧ SlX.SCls K C ∧ SlX.SIsi K C ∧ PySem.W.kitOne K (.ref C) u = some false
def IsX (K : PySem.W.Frag) (H : Hp) (v : V) (c : String) (b : Bool) : Prop := (∃ t, TyX K H v t ∧ PySem.W.kitOne K t (.type c) = some b) ∨ (b = false ∧ SlNo K H v (.type c))
theorem IsX.str {K : PySem.W.Frag} {H : Hp} {z : Str} : IsX K H (.str z) "str" true := .inl ⟨_, .base (.str z), kit_ty (by decide +kernel)⟩
def rIsS (K : PySem.W.Frag) : List V → Hp → VK → Prop := fun xs H Q => ∃ x c b, xs = [x, .ty c] ∧ IsX K H x c b ∧ Q (.bl b) H
theorem call_isS {X : Cx} : CallR X (.builtin "isinstance") (rIsS X.K) := by
  intro pins s σ H xs us Q I r h
  obtain ⟨x, c, b, rfl, h | ⟨rfl, a, C, dx, vs, rfl, h1, h2, h3, h4⟩, q⟩ := h
  · obtain ⟨t, h1, h2⟩ := h
    exact call_isi pins s σ H _ us Q I r ⟨x, .ty c, t, .type c, b, rfl, .ty _, h1, h2, q⟩
  · refine SlX.call_isiSl (.type c) pins s σ H _ us Q I r ⟨a, C, dx, vs, .ty c, false, rfl, rfl, fun w e => e, h1, h2, h3, h4, q⟩
end MN
/-! lemmas that hang on no law: walks, locked dicts, instances with slots -/
namespace MN
open PySem PySem.Spec PyProof.Rows L2
theorem same_new {H : Hp} {p : Addr} {o : HO} (h : H p = none) : Same H (upd H p o) := fun b u e => by rw [upd_ne (ne_of_none e h)]; exact e
theorem tyT {K : PySem.W.Frag} {H : Hp} {t : Addr} {xs : List V} (h : SqT K H t xs) : TyX K H (.ref t) (.type "tuple") := by
  rcases h with (h | ⟨o, h⟩) | h
  · exact .base (.tup h)
  · exact .fTuple h
  · obtain ⟨o, its, n, e1, e2, _⟩ := h
    exact .kTuple e1 e2
abbrev GlC (mg : Str → Option Value) (x : Str) (v : V) : Prop := ∃ u, mg x = some u ∧ RelV v u
theorem IsX.ty {K : PySem.W.Frag} {H : Hp} {v : V} {a c : String} {b : Bool} (h : TyX K H v (.type a)) (hk : kitB a c = some b) : IsX K H v c b := .inl ⟨_, h, kit_ty hk⟩
theorem pg_tupK {X : Cx} {pos : Pos} {K : PySem.W.Frag} (hK : X.K = K) {es : List Expr} {k : Nat} {t : TGs} {n : Nat} (hc : X.calm = true) (h : PGs X es t)
    (hn : (assignEach es X.env).length = n := by rfl) (hst : (assignEach es X.env).findIdx? (·.1) = none := by rfl) : PG X (.Tuple es k pos) (gTup K n t) := hK ▸ pg_tup hc h hn hst
theorem isSK {X : Cx} {K : PySem.W.Frag} (hK : X.K = K) : CallR X (.builtin "isinstance") (rIsS K) := hK ▸ call_isS
theorem walk_zipT {K : PySem.W.Frag} {a b : Addr} {xs ys : List V} {n : Nat} (hn : n = min xs.length ys.length) : Walk (RZ.ItzT K a b) n (fun H => SqT K H a xs ∧ SqT K H b ys) (YPair (fun i => xs[i]?) (fun i => ys[i]?)) := by
  subst hn
  refine ⟨fun i _ hi q => ?_, fun _ q => ⟨xs, ys, q.1, q.2, by omega⟩, fun i H v H' _ q y => ?_⟩
  · have h1 : i < xs.length := by omega
    have h2 : i < ys.length := by omega
    exact ⟨xs, ys, xs[i], ys[i], q.1, q.2, by simp [h1], by simp [h2]⟩
  · obtain ⟨T, x, y, h1, h2, h3, h4, h5⟩ := y
    exact ⟨T, x, y, h1, h2, h3, h4 xs q.1, h5 ys q.2⟩
section
variable {j : Nat} {tt : TT} {te : TE} {vs : List Nat} {σ : L2.St} {H1 : Hp} {D d : Addr} {o : Obj} {Qd : Hp → Prop}
theorem lc_keys {kvs : List (Key × V)} (hs : H1 d = some (.frz o (.dK kvs))) (hD : H1 D = none) (hz : kvs.length ≤ 1000000) (f : V → Bool) (v : V → V) (hw : ∀ x ∈ kvs.map (fun kv => kV kv.1), wipe ((wipe σ vs).set j (some x)) vs = wipe σ vs)
    (ht : ∀ x ∈ kvs.map (fun kv => kV kv.1), ∀ (acc : List V) (Q : Bool → Hp → Prop), Q (f x) (upd H1 D (.lst acc)) → tt ((wipe σ vs).set j (some x)) (upd H1 D (.lst acc)) Q)
    (he : ∀ x ∈ kvs.map (fun kv => kV kv.1), f x = true → ∀ (acc : List V) (Q : VK), Q (v x) (upd H1 D (.lst acc)) → te ((wipe σ vs).set j (some x)) (upd H1 D (.lst acc)) Q)
    (hd : Qd (upd H1 D (.lst (((kvs.map fun kv => kV kv.1).filter f).map v)))) : LcGoal (Itk d o kvs) (gName j) tt te vs σ H1 D Qd := by
  refine lc_pure walk_keys (kvs.map fun kv => kV kv.1) (by simp) hz (fun i H x H' hi y => ?_) f v (fun _ => by rw [upd_ne (ne_of_none hs hD)]; exact hs) hw ht he hd
  obtain ⟨e, k, v', h1, rfl⟩ := y
  exact ⟨e, by simp [h1]⟩
theorem dc_it {J : It} {n : Nat} {G : Hp → Prop} {Y : Nat → Hp → V → Hp → Prop} (w : Walk J n G Y) {g : TG} {tk tv : TE} (Pv : Nat → Hp → Prop) (h0 : Pv 0 (upd H1 D (.dK []))) (hG : ∀ i H, i ≤ n → Pv i H → G H)
    (hs : ∀ i x H H', i < n → Pv i H → Y i H x H' → g x (wipe σ vs) H' fun σ2 H2 => wipe σ2 vs = wipe σ vs ∧ tt σ2 H2 fun b H3 =>
      if b = true then tk σ2 H3 fun y H4 => tv σ2 H4 fun z H5 => ∃ kvs k, y = kV k ∧ H5 D = some (.dK kvs) ∧ kvs.length < sizeLine ∧ Pv (i + 1) (upd H5 D (.dK (putK kvs k z))) else Pv (i + 1) H3) (hd : ∀ H, Pv n H → Qd H) :
    ∃ W : Nat → Nat → Hp → Prop, (∃ m, W 0 m (upd H1 D (.dK []))) ∧ ∀ i m H, W i m H →
      (J.stop i H ∧ Qd H) ∨ (J.go i H ∧ ∃ Nx : Hp → Prop, (∀ H', Nx H' → ∃ m', m' < m ∧ W (i + 1) m' H') ∧ ∀ x H', J.yld i H x H' → g x (wipe σ vs) H' fun σ2 H2 => wipe σ2 vs = wipe σ vs ∧ tt σ2 H2 fun b H3 =>
        if b = true then tk σ2 H3 fun y H4 => tv σ2 H4 fun z H5 => ∃ kvs k, y = kV k ∧ H5 D = some (.dK kvs) ∧ kvs.length < sizeLine ∧ Nx (upd H5 D (.dK (putK kvs k z))) else Nx H3) := by
  refine ⟨fun i m H => m = n - i ∧ i ≤ n ∧ Pv i H, ⟨n, by simp, Nat.zero_le _, h0⟩, ?_⟩
  rintro i m H ⟨rfl, hi, p⟩
  have q := hG i H hi p
  by_cases hlt : i < n
  · exact .inr ⟨w.goes i H hlt q, Pv (i + 1), fun H' p' => ⟨n - (i + 1), by omega, rfl, hlt, p'⟩, fun x H' y => hs i x H H' hlt p (w.yields i H x H' hlt q y)⟩
  · obtain rfl : i = n := by omega
    exact .inl ⟨w.stops H q, hd H p⟩
theorem dp_it {J : It} {n : Nat} {G : Hp → Prop} {Y : Nat → Hp → V → Hp → Prop} {o0 : HO} (w : Walk J n G Y) {g : TG} {tk tv : TE} (Pv : Nat → Hp → Prop) (h0 : Pv 0 (upd H1 D o0)) (hG : ∀ i H, i ≤ n → Pv i H → G H)
    (hs : ∀ i x H H', i < n → Pv i H → Y i H x H' → g x (wipe σ vs) H' fun σ2 H2 => wipe σ2 vs = wipe σ vs ∧ tt σ2 H2 fun b H3 =>
      if b = true then tk σ2 H3 fun y H4 => tv σ2 H4 fun z H5 => ∃ H6, DPut H5 D y z H6 ∧ Pv (i + 1) H6 else Pv (i + 1) H3) (hd : ∀ H, Pv n H → Qd H) :
    ∃ W : Nat → Nat → Hp → Prop, (∃ m, W 0 m (upd H1 D o0)) ∧ ∀ i m H, W i m H →
      (J.stop i H ∧ Qd H) ∨ (J.go i H ∧ ∃ Nx : Hp → Prop, (∀ H', Nx H' → ∃ m', m' < m ∧ W (i + 1) m' H') ∧ ∀ x H', J.yld i H x H' → g x (wipe σ vs) H' fun σ2 H2 => wipe σ2 vs = wipe σ vs ∧ tt σ2 H2 fun b H3 =>
        if b = true then tk σ2 H3 fun y H4 => tv σ2 H4 fun z H5 => ∃ H6, DPut H5 D y z H6 ∧ Nx H6 else Nx H3) := by
  refine ⟨fun i m H => m = n - i ∧ i ≤ n ∧ Pv i H, ⟨n, by simp, Nat.zero_le _, h0⟩, ?_⟩
  rintro i m H ⟨rfl, hi, p⟩
  have q := hG i H hi p
  by_cases hlt : i < n
  · exact .inr ⟨w.goes i H hlt q, Pv (i + 1), fun H' p' => ⟨n - (i + 1), by omega, rfl, hlt, p'⟩, fun x H' y => hs i x H H' hlt p (w.yields i H x H' hlt q y)⟩
  · obtain rfl : i = n := by omega
    exact .inl ⟨w.stops H q, hd H p⟩
end
/-- nothing to walk over -/
theorem lc_none {J : It} {g : TG} {tt : TT} {te : TE} {vs : List Nat} {σ : L2.St} {H1 : Hp} {D : Addr} {Qd : Hp → Prop} (h : J.stop 0 (upd H1 D (.lst []))) (q : Qd (upd H1 D (.lst []))) : LcGoal J g tt te vs σ H1 D Qd :=
  ⟨fun i _ H => i = 0 ∧ H = upd H1 D (.lst []), ⟨0, rfl, rfl⟩, fun _ _ _ e => by
    obtain ⟨rfl, rfl⟩ := e
    exact .inl ⟨h, q⟩⟩
/-- locked, a list laid, unlocked -/
theorem same_lock {H : Hp} {a D : Addr} {u : HO} {o : Obj} {x : HO} (h : H a = some u) (hD : (upd H a (.frz o u)) D = none) : Same H (upd (upd (upd H a (.frz o u)) D x) a u) ∧ (upd (upd (upd H a (.frz o u)) D x) a u) D = some x ∧ D ≠ a := by
  have n : D ≠ a := fun z => by rw [z, upd_same] at hD; cases hD
  refine ⟨fun b y e => ?_, by rw [upd_ne n, upd_same], n⟩
  by_cases z : b = a
  · rw [z, upd_same]; rw [z, h] at e; exact e
  · rw [upd_ne z]
    have n2 : b ≠ D := fun q => by rw [upd_ne n] at hD; rw [q, hD] at e; cases e
    rw [upd_ne n2, upd_ne z]; exact e
theorem lc_keysL {j : Nat} {tt : TT} {te : TE} {vs : List Nat} {σ : L2.St} {H1 : Hp} {D a : Addr} {od : Obj} {kvs : List (Key × V)} {Qd : Hp → Prop} (h : H1 a = some (.dK kvs)) (hD : (upd H1 a (.frz od (.dK kvs))) D = none) (hz : kvs.length ≤ 1000000) (f : V → Bool) (v : V → V) (hw : ∀ x ∈ kvs.map (fun kv => kV kv.1), wipe ((wipe σ vs).set j (some x)) vs = wipe σ vs)
    (ht : ∀ x ∈ kvs.map (fun kv => kV kv.1), ∀ H2, H2 a = some (.frz od (.dK kvs)) → (∀ b o, b ≠ a → H1 b = some o → H2 b = some o) → ∀ (Q : Bool → Hp → Prop), Q (f x) H2 → tt ((wipe σ vs).set j (some x)) H2 Q)
    (he : ∀ x ∈ kvs.map (fun kv => kV kv.1), f x = true → ∀ H2, H2 a = some (.frz od (.dK kvs)) → (∀ b o, b ≠ a → H1 b = some o → H2 b = some o) → ∀ (Q : VK), Q (v x) H2 → te ((wipe σ vs).set j (some x)) H2 Q)
    (hd : ∀ H', H' a = some (.frz od (.dK kvs)) → Same H1 (upd H' a (.dK kvs)) → upd H' a (.dK kvs) D = some (.lst (((kvs.map fun kv => kV kv.1).filter f).map v)) → Qd H') :
    LcGoal (Itk a od kvs) (gName j) tt te vs σ (upd H1 a (.frz od (.dK kvs))) D Qd := by
  have n : D ≠ a := fun z => by rw [z, upd_same] at hD; cases hD
  have k1 : ∀ acc, upd (upd H1 a (.frz od (.dK kvs))) D (.lst acc) a = some (.frz od (.dK kvs)) := fun acc => by rw [upd_ne n.symm, upd_same]
  have k2 : ∀ acc b o, b ≠ a → H1 b = some o → upd (upd H1 a (.frz od (.dK kvs))) D (.lst acc) b = some o := fun acc b o nb e => by
    have n2 : b ≠ D := fun q => by rw [upd_ne n] at hD; rw [q, hD] at e; cases e
    rw [upd_ne n2, upd_ne nb]; exact e
  refine lc_keys upd_same hD hz f v hw (fun x hx acc Q q => ht x hx _ (k1 _) (k2 _) Q q) (fun x hx hf acc Q q => he x hx hf _ (k1 _) (k2 _) Q q) ?_
  obtain ⟨s, sD, _⟩ := same_lock (x := .lst (((kvs.map fun kv => kV kv.1).filter f).map v)) h hD
  exact hd _ (k1 _) s sD
theorem slt_same {H H' : Hp} {a C dx : Addr} {vs : List (Option V)} (e : Same H H') (h : SlX.Slt H a C dx vs) : SlX.Slt H' a C dx vs := by
  rcases h with ⟨h, rfl⟩ | ⟨h1, h2⟩
  · exact .inl ⟨e _ _ h, rfl⟩
  · exact .inr ⟨e _ _ h1, e _ _ h2⟩
theorem piTupK {X : Cx} {K : PySem.W.Frag} (hK : X.K = K) {tg l : Expr} {tl : TE} (hl : PE X l tl) : PI X tg l (iTup K tl) := hK ▸ pi_tup hl
theorem putK_le (kvs : List (Key × V)) (k : Key) (v : V) : (putK kvs k v).length ≤ kvs.length + 1 := by
  unfold putK
  split <;> simp
/-- an instance with slots, laid -/
def Sl2 (H : Hp) (a C dx : Addr) (vs : List (Option V)) : Prop := H a = some (SlX.SlO a C dx vs) ∧ H dx = some (.xd [])
theorem slH_sl2 {H : Hp} {a C dx : Addr} {vs : List (Option V)} (h : dx ≠ a) : Sl2 (SlX.slH H a C dx vs) a C dx vs := ⟨upd_same, by unfold SlX.slH; rw [upd_ne h, upd_same]⟩
/-- all but x and dx stays -/
def Kp (x dx : Addr) (H H' : Hp) : Prop := ∀ b o, b ≠ x → b ≠ dx → H b = some o → H' b = some o
theorem Kp.same {x dx : Addr} {H H1 H2 : Hp} (h : Kp x dx H H1) (e : Same H1 H2) : Kp x dx H H2 := fun b o n1 n2 q => e _ _ (h b o n1 n2 q)
theorem Kp.sl {x dx C : Addr} {vs : List (Option V)} {H H1 : Hp} (h : Kp x dx H H1) : Kp x dx H (SlX.slH H1 x C dx vs) := fun b o n1 n2 q => by
  rw [SlX.slH_ne n1 n2]; exact h b o n1 n2 q
section
variable {P : Program} {w : World} {K : PySem.W.Frag} {mg : Str → Option Value} {base : Heap}
theorem fnok_of {x qual : Str} {params : Arguments} {body : List Stmt} {scope : Scope} {dvs : List V} {kws : List (Str × V)} {f : Addr} {fd : FuncData} {N ps : List Str} {k : Nat} {sp : Sp} (F : FunD K x qual params body scope dvs kws f fd) (S : FnScope N ps scope) (len : ∀ vs H Q E, sp vs H Q E → vs.length = ps.length)
    (hbody : ∀ (cdv : Value) (A : Around) (outer : List Env) (s : Shared) (H : Hp) (vs : List V) (Q : VK) (E : XK), Room k (A.deeper (envOfC qual scope s.heap.objs.size f cdv)) → sp vs H Q E →
      ∃ t, PSs (cxOf CX0 P w K mg base N qual scope f cdv A outer s H E).nox body t ∧ t { nx := fun _ H' => Q .non H', rt := Q } (start N vs) H) : FnOk P w K mg base CX0 (k + 1) f fd ps sp :=
  F.ok S len fun cdv A outer s H vs Q E hr h => by
    obtain ⟨t, h1, h2⟩ := hbody cdv A outer s H vs Q E hr h
    exact ⟨t, h1.nox, h2⟩
abbrev FunAt (K : PySem.W.Frag) (x qual : Str) (st : Stmt) (dvs : List V) (f : Addr) (fd : FuncData) : Prop := FunD K x qual (defArgs st) (defBody st) (defScope st) dvs [] f fd
end
/-- a new object, in a word -/
theorem laid {H : Hp} {q : Addr} (o : HO) (h : H q = none) : Same H (upd H q o) ∧ upd H q o q = some o := ⟨same_new h, upd_same⟩
end MN
/-! try with several clauses, each with a name for its exception or without one -/
namespace MN
open PySem PySem.Spec PyProof.Rows L2
/-- a clause: its class, the slot of its name, its suite's reading -/
abbrev Clz : Type := Value × Option Nat × (Addr → Value → Option Addr → TS)
def endU (oi : Option Nat) (D : Ends) : Ends := match oi with
  | none => D
  | some i => { nx := fun σ H => D.nx (σ.set i none) H, rt := D.rt, bk := fun σ H => D.bk (σ.set i none) H, ct := fun σ H => D.ct (σ.set i none) H }
def setU (oi : Option Nat) (a : Addr) (σ : L2.St) : L2.St := match oi with
  | none => σ
  | some i => σ.set i (some (.ref a))
/-- what the clauses wish of an exception of the body -/
def wClz (K : PySem.W.Frag) (Wo : WX) (D : Ends) : List Clz → WX
  | [] => Wo
  | (c, oi, ts) :: r => fun cls d σ H => ∃ b, PySem.W.exmOne K cls c = some b ∧ (b = true → ∀ a, H a = none → ts a cls d (endU oi D) (setU oi a σ) H) ∧ (b = false → wClz K Wo D r cls d σ H)
inductive ClzOk (X : Cx) : List ExceptHandler → List Clz → Prop
  | nil : ClzOk X [] []
  | plain {x : Str} {c : Value} {ts : Addr → Value → Option Addr → TS} {st : Stmt} {sts : List Stmt} {p q : Pos} {hs : List ExceptHandler} {l : List Clz} (n : Names X x c)
      (h : ∀ (a : Addr) (oe : Obj) (cls : Value) (d : Option Addr) (pn : List (Addr × Obj)), Zc cls d oe → (∃ vs, oe.data = .fields vs) → PSs (X.suite a ((a, oe) :: pn)) (st :: sts) (ts a cls d)) (r : ClzOk X hs l) : ClzOk X (.ExceptHandler (some (.Name x p)) none (st :: sts) q :: hs) ((c, none, ts) :: l)
  | named {x y : Str} {c : Value} {i : Nat} {ts : Addr → Value → Option Addr → TS} {st : Stmt} {sts : List Stmt} {p q : Pos} {hs : List ExceptHandler} {l : List Clz} (n : Names X x c) (nd : X.N.Nodup) (hi : X.N[i]? = some y) (hk : X.env.kindOf y = some .local)
      (h : ∀ (a : Addr) (oe : Obj) (cls : Value) (d : Option Addr) (pn : List (Addr × Obj)), Zc cls d oe → (∃ vs, oe.data = .fields vs) → PSs (X.suite a ((a, oe) :: pn)) (st :: sts) (ts a cls d)) (r : ClzOk X hs l) : ClzOk X (.ExceptHandler (some (.Name x p)) (some y) (st :: sts) q :: hs) ((c, some i, ts) :: l)
section
variable {X : Cx} {body : List Stmt} {c0 : ExceptHandler} {cs : List ExceptHandler} {l : List Clz} {pos : Pos} {tb : WX → TS} {Wo : WX}
theorem ps_try_n (hs : X.stack = X.env :: X.outer) (hf : X.env.frame = some X.env.locals) (tk : Takes X Wo)
    (hb : ∀ (W : WX) (pn : List (Addr × Obj)) (xe : Value → Shared → Prop), Takes (X.tr pn xe) W → PSs (X.tr pn xe) body (tb W)) (hh : ClzOk X (c0 :: cs) l) : PS X (.Try body (c0 :: cs) [] [] pos) (fun D σ H => tb (wClz X.K Wo D l) D σ H) := by
  refine ⟨fun pins s σ H D I h => ?_⟩
  have ok := I.ok
  have fr : X.A.frames = some (X.env :: X.outer) := ok.frames.trans (congrArg some hs)
  refine wpAny_Try_except (wpAny_mono ((hb (wClz X.K Wo D l) (X.pn ++ pins) _ (fun u s' xx => ?_)).run [] s σ H D (I.toTry (fun e s1 => wpAny (model X.prog X.w) X.A (noteFrame e X.env) (fun _ s2 => wpAny (model X.prog X.w) X.A (setFlight e none)
    (fun _ s3 => wpAny (model X.prog X.w) X.A (handleBy e X.env (c0 :: cs)) (SP X pins D) X.xe s3) X.xe s2) X.xe s1)) h) (fun f s1 z => ?_) (fun _ _ z => z))
  · obtain ⟨a, B, sI, pns, σ1, H1, cls, d, rfl, J1, nb, up, sky, na, os, ag, w⟩ := xx
    have J : Inv X pins σ1 H1 sI := J1.ofTry ok
    refine Sky.land Zc.steady fr hf (hs ▸ sky) fun h3 fl up3 => ?_
    have K3 : Inv X pins σ1 H1 { s' with heap := h3 } := J.landed nb fl.1 (up.trans up3) os ag
    obtain ⟨o3, v3, g3, z3, d3⟩ := fl.there
    have away : a ∉ frs (X.env :: X.outer) := fun hm => by
      obtain ⟨_, o, g, nf⟩ := fl.2.2.1.mem hm
      rw [g3] at g
      cases g
      exact nf _ d3
    have nL : a ≠ X.env.locals := fun z => away (List.mem_filterMap.mpr ⟨X.env, List.mem_cons_self, by rw [hf, z]⟩)
    have nF : a ∉ X.fs := fun hm => by
      obtain ⟨e, m1, m2⟩ := List.mem_filterMap.mp hm
      exact away (List.mem_filterMap.mpr ⟨e, .tail _ m1, m2⟩)
    have S3 := K3.suite g3 d3 na nL nF
    have LT : PySem.W.Looks (model X.prog X.w) h3 (typeOf (.ref a)) cls := fun A Q E s k q => wpAny_typeOf_ref (k _ _ g3) (z3.1 ▸ q)
    have asks : ∀ {x : Str} {c : Value} {p : Pos}, Names X x c → ∀ {Q E : Value → Shared → Prop}, Q c { s' with heap := h3 } → wpAny (model X.prog X.w) (X.A.mark (some (.ref a))) (eval (.Name x p) X.env) Q E { s' with heap := h3 } := fun {x c p} hn {Q E} q => by
      obtain ⟨hg, hd, hm | ⟨hm, hv, hx⟩⟩ := hn
      · exact ld_glob (X := X.suite a ((a, o3) :: (X.pn ++ pins))) S3 hg hm q hd
      · exact ld_blt (X := X.suite a ((a, o3) :: (X.pn ++ pins))) S3 hg hm hv q hx hd
    have enters : ∀ {Q : Unit → Shared → Prop} {E : Value → Shared → Prop}, (∀ h4 o4, h4.get? a = some o4 → Zc cls d o4 → (∃ vs, o4.data = .fields vs) → Inv (X.suite a ((a, o4) :: (X.pn ++ pins))) [] σ1 H1 { s' with heap := h4 } → Q () { s' with heap := h4 }) →
        wpAny (model X.prog X.w) (X.A.mark (some (.ref a))) (setFlight (.ref a) none) Q E { s' with heap := h3 } := fun {Q E} q => by
      refine HandSPX.lands_againZ fl fun h4 f4 up4 => ?_
      obtain ⟨o4, v4, g4, z4, d4⟩ := f4.there
      exact q h4 o4 g4 z4 ⟨_, d4⟩ ((J.landed (s' := { s' with heap := h4 }) nb f4.1 ((up.trans up3).trans up4) os ag).suite g4 d4 na nL nF)
    have go : ∀ {hs2 : List ExceptHandler} {l2 : List Clz}, ClzOk X hs2 l2 → wClz X.K Wo D l2 cls d σ1 H1 → wpAny (model X.prog X.w) X.A (handleBy (.ref a) X.env hs2) (SP X pins D) X.xe { s' with heap := h3 } := by
      intro hs2 l2 hk
      induction hk with
      | nil =>
        intro w
        obtain ⟨k1, k2, k3, oe, vs, T, oT, ts, he, hz, hd, h1, hr⟩ := id fl
        refine wpAny_handleBy_nil ?_
        unfold PySem.passOn
        refine wpAny_bind (wpAny_field he hd h1 ?_)
        rw [if_neg (show ¬ (Value.ref T == Value.none) = true from by simp)]
        have fin : wpAny (model X.prog X.w) X.A (setFlight (.ref a) X.env.frame) (fun _ s4 => wpAny (model X.prog X.w) X.A (throw (.ref a) : Sem Flow) (SP X pins D) X.xe s4) X.xe { s' with heap := h3 } := by
          rw [hf]
          exact HandSPX.setFlight_upZ fl fun h4 hh4 up4 => wpAny_throw (tk _ _ ⟨a, B, sI, pins, σ1, H1, cls, d, rfl, J, nb, (up.trans up3).trans up4, .inr (.inr (hs.symm ▸ hh4)), na, os, ag, w⟩)
        first
          | exact wpAny_bind (wpAny_pure (wpAny_bind fin))
          | exact wpAny_bind fin
      | @plain x c ts st sts p q hs3 l3 hn hsu _ ih =>
        intro w
        obtain ⟨b, e1, yes, no⟩ := w
        refine wpAny_handleBy_cons (codeAny_handlers_test ?_) (fun q => nomatch q)
        refine asks hn ((PySem.W.exm_one (M := model X.prog X.w) K3.kIn LT e1).here ?_)
        cases b with
        | false => exact ih (no rfl)
        | true =>
          refine codeAny_handlers_suite (enters fun h4 o4 g4 z4 d4 S4 => ?_)
          refine wpAny_mono ((hsu a o4 cls d _ z4 d4).run [] _ _ H1 _ S4 (yes rfl a na)) (fun f s6 z => ?_) (fun _ _ z => z.elim)
          match f, z with
          | .next, ⟨_, _, S, q⟩ => exact ⟨_, _, S.unsuite ok, q⟩
          | .brk, ⟨_, _, S, q⟩ => exact ⟨_, _, S.unsuite ok, q⟩
          | .cont, ⟨_, _, S, q⟩ => exact ⟨_, _, S.unsuite ok, q⟩
          | .ret _, ⟨_, _, _, S, r, q⟩ => exact ⟨_, _, _, S.unsuite ok, r, q⟩
      | @named x y c i ts st sts p q hs3 l3 hn nd hi hk hsu _ ih =>
        intro w
        obtain ⟨b, e1, yes, no⟩ := w
        refine wpAny_handleBy_cons (codeAny_handlers_test ?_) (fun q => nomatch q)
        refine asks hn ((PySem.W.exm_one (M := model X.prog X.w) K3.kIn LT e1).here ?_)
        cases b with
        | false => exact ih (no rfl)
        | true =>
          refine codeAny_handlers_suite_as (enters fun h4 o4 g4 z4 d4 S4 => ?_)
          refine store_ok (X := X.suite a ((a, o4) :: (X.pn ++ pins))) (v := .ref a) S4 nd hi (.inl hk) rfl (fun s5 S5 => ?_) (.inr hk)
          refine wpAny_mono ((hsu a o4 cls d _ z4 d4).run [] s5 _ H1 _ S5 (yes rfl a na)) (fun f s6 z => ?_) (fun _ _ z => z.elim)
          have ends : ∀ {σ6 : L2.St} {H6 : Hp} {Q : Shared → Prop}, Inv (X.suite a ((a, o4) :: (X.pn ++ pins))) [] σ6 H6 s6 → (∀ s7, Inv X pins (σ6.set i none) H6 s7 → Q s7) →
              wpAny (model X.prog X.w) X.A (do bindName X.env y .none; unbindBehindTheSuite X.env y q) (fun _ s7 => Q s7) X.xe s6 := fun {σ6 H6 Q} S6 hq => gone_ok (S6.unsuite ok) nd hi hk hq
          match f, z with
          | .next, ⟨_, _, S, q⟩ => exact ends S fun s7 J7 => ⟨_, _, J7, q⟩
          | .brk, ⟨_, _, S, q⟩ => exact ends S fun s7 J7 => ⟨_, _, J7, q⟩
          | .cont, ⟨_, _, S, q⟩ => exact ends S fun s7 J7 => ⟨_, _, J7, q⟩
          | .ret _, ⟨_, _, _, S, r, q⟩ => exact ends S fun s7 J7 => ⟨_, _, _, J7, r, q⟩
    exact go hh w
  · match f, z with
    | .next, ⟨_, _, S, q⟩ => exact wpAny_execs_nil ⟨_, _, S.ofTry ok, q⟩
    | .brk, ⟨_, _, S, q⟩ => exact ⟨_, _, S.ofTry ok, q⟩
    | .cont, ⟨_, _, S, q⟩ => exact ⟨_, _, S.ofTry ok, q⟩
    | .ret _, ⟨_, _, _, S, r, q⟩ => exact ⟨_, _, _, S.ofTry ok, r, q⟩
end
end MN
/-! own exceptions whose __init__ says super().__init__('..') and keeps its argument as a field -/
namespace MNE
open PySem PySem.W PySem.Calls PyProof.Rows PySem.HandSPX Builtin Builtin.ObjectAttr
abbrev erA (f : Str) (p1 p2 : Pos) : Arguments := ⟨[], [⟨"self", none, p1⟩, ⟨f, none, p2⟩], none, [], [], none, []⟩
abbrev erB (f m : Str) (a1 a2 a3 a4 a5 a6 b1 b2 b3 b4 : Pos) : List Stmt :=
  [.Expr (.Call (.Attribute (.Call (.Name "super" a1) [] [] a2) "__init__" a3) [.Constant (.str m) 0 a4] [] a5) a6, .Assign [.Attribute (.Name "self" b1) f b2] (.Name f b3) b4]
abbrev erS (f : Str) : Scope := ⟨.function, [("self", .local), (f, .local), ("__class__", .free), ("super", .globalImplicit)], false, false, []⟩
/-- the built-in class behind -/
structure BaseT (B newId initId : String) (bmB : List Value) : Prop where
  base : ExcBaseFacts B newId initId bmB
  sup : KxsFacts B initId
  pass : ∀ self : Value, refuseLoop self "__setattr__" bmB = pure ()
  obj : bmB.contains (.type "object") = true
/-- the class at C as it is written -/
def ownCls (K : Frag) (C : Addr) (bmB : List Value) (newId : String) : Bool := match K.lookup C with
  | some ⟨.type "type", _, .cls cd, sl⟩ => (match cd.mro, sl.toList with
    | .ref D :: bm, [_, _, _, _, some (.builtin n), _] => D == C && (n == newId && (!cd.hasDel && (cd.hasDict && excTail bmB bm)))
    | _, _ => false)
  | _ => false
theorem ownCls_of {K : Frag} {C : Addr} {bmB : List Value} {newId : String} (q : ownCls K C bmB newId = true) :
    ∃ nm N qn bs bm sn sub ab col dd k0 k1 k2 k3 k5, K.lookup C = some (excClassObj nm qn C N bs bm true sn sub ab col dd k0 k1 k2 k3 k5 newId) ∧ excTail bmB bm = true := by
  unfold ownCls at q
  split at q
  · rename_i dd cd sl hl
    split at q
    · rename_i D bm k0 k1 k2 k3 n k5 hm hs
      obtain ⟨nm, bs, mro, ns, qn, hd, sn, sb, ab, col, del⟩ := cd
      obtain ⟨l⟩ := sl
      simp only [Bool.and_eq_true, beq_iff_eq, Bool.not_eq_true'] at q hm hs
      obtain ⟨rfl, rfl, rfl, rfl, ht⟩ := q
      subst hm hs
      exact ⟨nm, ns, qn, bs, bm, sn, sb, ab, col, dd, k0, k1, k2, k3, k5, hl, ht⟩
    · cases q
  · cases q
/-- what is plain of the text of __init__ -/
structure TxT (f m : Str) (a1 a2 a3 a4 a5 a6 b1 b2 b3 b4 : Pos) : Prop where
  ev : ∀ env : Env, ∃ pl : Sem Bool, eval (.Call (.Attribute (.Call (.Name "super" a1) [] [] a2) "__init__" a3) [.Constant (.str m) 0 a4] [] a5) env = (do
    let ov ← attributeBase (.Call (.Name "super" a1) [] [] a2) "__init__" env (eval (.Call (.Name "super" a1) [] [] a2) env)
    standAt a3.atName
    let (f, first) ← holding [ov] (getMethod ov "__init__" pl)
    callWith a5 f first (backTo a5 (starEach [.Constant (.str m) 0 a4] env)) [])
  s1 : ∀ env : Env, swapsWith (.Call (.Attribute (.Call (.Name "super" a1) [] [] a2) "__init__" a3) [.Constant (.str m) 0 a4] [] a5) none a6.line env = pure false
  s2 : ∀ env : Env, swapsWith (.Name f b3) (some (.Attribute (.Name "self" b1) f b2)) b4.line env = pure false
  st : ∀ env : Env, starEach [.Constant (.str m) 0 a4] env = (false, eval (.Constant (.str m) 0 a4) env) :: starEach [] env
  pl : ∀ env : Env, (backTo a5 (starEach [] env)).any (·.1) = false
/-- what is plain of the field's name -/
structure NmT (f : Str) : Prop where
  ne : (f == ("self" : Str)) = false
  nd : (f == ("__debug__" : Str)) = false
  kf : (erS f).names.lookup f = some .local
  ks : (erS f).names.lookup ("super" : Str) = some .globalImplicit
  kc : (erS f).names.lookup ("__class__" : Str) = some .free
  bd : ∀ (q : Str) (body : List Stmt) (doc pm : Value) (an : Option Addr) (cdv ct : Value) (cc : Addr) (p1 p2 : Pos) (u v : Value), bindArgs (fnX "__init__" q (erA f p1 p2) body (erS f) [("__class__", cc)] .none .none doc pm an cdv ct) ⟨[u, v], []⟩ = pure [(("self" : Str), u), (f, v)]
/-- what the written part says of the class x, at C, of its __init__, at fI, and of its field f -/
structure ErT (P : Program) (K : Frag) (mg : Str → Option Value) (x f : Str) (C fI : Addr) : Prop where
  gC : mg x = some (.ref C)
  cls : ∃ B newId initId bmB, BaseT B newId initId bmB ∧ ownCls K C bmB newId = true ∧ ks_superIn K C C "__init__" = some (some (.builtin initId)) ∧ subIn K (.ref C) (.type B) = some true
  sa : findIn K (.ref C) "__setattr__" = some (some (.builtin "object.__setattr__"))
  xf : L2.XfC K C
  no : findIn K (.ref C) f = some none
  iC : findIn K (.ref C) "__init__" = some (some (.ref fI))
  tI : typeIn K (.ref fI) = some (.type "function")
  kC : keepIn K (.ref C) = true
  tC : typeIn K (.ref C) = some (.type "type")
  op : nsIn K cStatics "thirdparty.any" = some none
  su : mg "super" = none
  top : (P.main.scope.names.lookup ("super" : Str)).isSome = false
  nm : NmT f
  fn : ∃ (q : Str) (oc : Value) (od : Option Addr) (doc pm : Value) (an : Option Addr) (c cc : Addr) (ct : Value) (osl : Array (Option Value)) (m : Str) (p1 p2 a1 a2 a3 a4 a5 a6 b1 b2 b3 b4 : Pos),
    K.lookup fI = some ⟨oc, od, .func (fnX "__init__" q (erA f p1 p2) (erB f m a1 a2 a3 a4 a5 a6 b1 b2 b3 b4) (erS f) [("__class__", cc)] .none .none doc pm an (.ref c) ct), osl⟩ ∧ codeIn K (.ref c) q = true ∧
    TxT f m a1 a2 a3 a4 a5 a6 b1 b2 b3 b4 ∧ (∃ cl cld csl, K.lookup cc = some ⟨cl, cld, .cell (some (.ref C)), csl⟩) ∧ ∃ (ocl : Value) (ocd : Option Addr) (vs : Array Value) (ocs : Array (Option Value)) (file : Str) (t : Tok), K.lookup c = some ⟨ocl, ocd, .fields vs, ocs⟩ ∧ vs[2]? = some (.str file t) ∧ ((P.main.file : Str) == file) = true
/-- what __init__ leaves of the new exception at x -/
structure ErEnd (h h' : Heap) (x C dx : Addr) (f : Str) (v : Value) : Prop where
  keep : ∀ b o, b ≠ x → h.get? b = some o → h'.get? b = some o
  obj : ∃ t1 : Addr, h'.get? x = some { cls := .ref C, dict := some dx, data := .fields #[.ref t1, .none, .none, .none, .bool false, .none] }
  big : h.objs.size ≤ dx
  ne : dx ≠ x
  ns : h'.Ns1 dx (fun y => if y = f then some v else none)
structure ErMade (h h' : Heap) (e C d : Addr) (f : Str) (v : Value) : Prop where
  keep : ∀ b o, h.get? b = some o → h'.get? b = some o
  new : h.objs.size ≤ e
  obj : ∃ oe vs, h'.get? e = some oe ∧ oe.cls = .ref C ∧ oe.dict = some d ∧ oe.data = .fields vs ∧ vs[1]? = some .none
  big : h.objs.size ≤ d
  ne : d ≠ e
  ns : h'.Ns1 d (fun y => if y = f then some v else none)
section
variable {prog : Program} {w : World} {M : Model} {A : Around} {E : Value → Shared → Prop} {R : Result → Shared → Prop} {hp : Heap} {g : Array GenState} {d : Drawn} {t : Nat} {os : OsState} {K : Frag}
/-- self.f = v on an exception without a dict, whatever built-in class is behind -/
theorem er_store {name : Str} {tk : Tok} {v : Value} {x C : Addr} {fv : Array Value} {cd : ClassData} (X : K.In hp) (hx : hp.get? x = some { cls := .ref C, data := .fields fv }) (hcd : clsIn K C = some cd) (hdx : cd.hasDict = true)
    (ps : refuseLoop (.ref x) "__setattr__" cd.mro = pure ()) (mo : mroIn K C (.type "object") = some true) (ha : findIn K (.ref C) name = some none)
    (hq : ∀ h' tk' dx, (∀ b o, b ≠ x → hp.get? b = some o → h'.get? b = some o) → hp.objs.size ≤ dx → dx ≠ x → h'.get? x = some { cls := .ref C, dict := some dx, data := .fields fv } → h'.Ns1 dx (fun y => if y = name then some v else none) → R (.ok (.ret .none)) ⟨h', g, d, tk', os⟩) :
    codeAny (model prog w) A (.call (.builtin "object.__setattr__") ⟨[.ref x, .str name tk, v], []⟩) R ⟨hp, g, d, t, os⟩ := by
  have I : InstAt hp x { cls := .ref C, data := .fields fv } C none := ⟨hx, rfl, rfl, trivial⟩
  have S := F.store_object
  have neq : x ≠ hp.objs.size := Nat.ne_of_lt (Heap.lt_size hx)
  refine codeAny_call_builtin S.slot.plain S.entry (@check_slot (model prog w) _ _ ⟨hp, g, d, t, os⟩ "object.__setattr__" "object" "__setattr__" (.ref x) [.str name tk, v] [] _ S.kind S.split (I.type.andThen (looks_mroIn X mo)) (S.args (.ref x) (.str name tk) v) ?_)
  have lm : Looks (model prog w) hp (mroOf (.ref C)) cd.mro := (looks_clsIn X hcd).andThen .now
  have lt : Looks (model prog w) hp (storeTaker? none) none := .now
  have lc : Looks (model prog w) hp (classData C) cd := looks_clsIn X hcd
  rw [osa_eq, refuse_eq]
  refine wpAny_bind (wpAny_bind (I.type.at (wpAny_bind (lm.at ?_))))
  rw [ps]
  refine wpAny_pure (wpAny_bind (I.type.at (wpAny_bind ((looks_findIn X ha).at (wpAny_bind (lt.at ?_))))))
  show wpAny _ _ (storeInOwnDict (.ref x) (.ref C) (.str name tk) name v false) _ _ _
  obtain ⟨nm, bs, mro, ns, qn, hd, sn, sb, ab, col, del⟩ := cd
  cases (show hd = true from hdx)
  unfold storeInOwnDict Builtin.ObjectAttr.ownDictForStores
  repeat (first | with_reducible refine store_in_new ?_ ?_ | with_reducible refine wpAny_loadPart_at hx ?_ | with_reducible refine lc.at ?_ | wp_step)
  · exact ⟨_, #[], _, (Heap.get?_update_ne _ _ _ _ neq.symm).trans (Heap.get?_push_at rfl rfl), rfl, fun e he => absurd he (by simp), fun _ => rfl⟩
  · intro h' tk' hn hs
    refine hq h' tk' hp.objs.size (fun b o hb ho => ?_) (Nat.le_refl _) neq.symm ?_ hn
    · exact (hs.2 b (Nat.ne_of_lt (Heap.lt_size ho))).trans ((Heap.get?_update_ne _ _ _ _ hb).trans (Heap.get?_push_of_some _ ho))
    · exact (hs.2 x neq).trans (Heap.get?_update_self _ (Heap.get?_push_of_some _ hx) rfl)
end
end MNE
/-! an own exception made: super().__init__('..'), then the field -/
namespace MNE
open PySem PySem.W PySem.Calls PyProof.Rows PySem.HandSPX
section
variable {prog : Program} {w : World} {A : Around} {E : Value → Shared → Prop} {R : Result → Shared → Prop} {s : Shared} {K : Frag} {mg : Str → Option Value} {x f : Str} {C fI : Addr}
theorem drop_first (C : Addr) (l : List Value) : ((Value.ref C :: l).dropWhile (· != .ref C)).drop 1 = l := by simp
/-- the bound built-in __init__ is called: the args are laid anew -/
theorem er_bound {B newId initId : String} {bmB : List Value} {nm qn : Str} {N e t0 u : Addr} {bs bm : List Value} {sn : List Str} {sub : List Value} {ab : Bool} {col : Option Bool} {dd : Option Addr} {k0 k1 k2 k3 k5 : Option Value} {rest : List Value} {Q : Value → Shared → Prop}
    (F : ExcBaseFacts B newId initId bmB) (hC : s.heap.get? C = some (excClassObj nm qn C N bs bm true sn sub ab col dd k0 k1 k2 k3 k5 newId)) (he : s.heap.get? e = some (excO C t0)) (hu : KxsAt initId u e s.heap) (hz : rest.length ≤ sizeLine)
    (h : ∀ h' t1, (∀ b o, b ≠ e → s.heap.get? b = some o → h'.get? b = some o) → h'.get? e = some (excO C t1) → Q .none { s with heap := h' }) : wpAny (model prog w) A (call (.ref u) rest) Q E s := by
  obtain ⟨hh, g, d, tk, os⟩ := s
  have hu' : hh.get? u = some (kxs_mw initId e) := hu
  refine wpAny_call (codeAny_of_tree ?_)
  show wpAny _ A.in1 (callAny (.ref u) ⟨rest, []⟩) _ _ _
  simp only [callAny]
  refine wpAny_bind (wpAny_load hu' ?_)
  have tt : (Value.type "method-wrapper" == Value.type "method" || Value.type "method-wrapper" == Value.type "builtin_function_or_method" || Value.type "method-wrapper" == Value.type "method-wrapper") = true := by decide
  simp only [kxs_mw, tt, if_true]
  refine KFB.if_so (by decide) (wpAny_bind (check_bound_init F.toExcCallFacts hC he rfl (wpAny_bind (wpAny_pure (wpAny_pure ?_)))))
  refine ⟨plainId_quiet F.init.plain _, codeAny_builtin F.initEntry ?_⟩
  refine exc_init_tree (cls := .ref C) (t0 := t0) (dv := none) (c2 := .none) (c3 := .none) (b4 := .bool false) he hz (fun h' k e' _ => ?_)
  exact h h' _ k e'
theorem er_init {v : Value} {y t0 : Addr} (T : ErT prog K mg x f C fI) (X : K.In s.heap) (lim : s.heap.NoLimit) (hg : s.heap.Ns mainGlobals mg) (hb : ∃ mb, s.heap.Ns builtinsNs mb ∧ ∀ z : Str, z ≠ "__name__" → mb z = bootBuiltins z)
    (hx : s.heap.get? y = some (excO C t0)) (hK : K.lookup y = none) (room : A.depth < recursionLimit) (hq : ∀ h' tk dx, ErEnd s.heap h' y C dx f v → R (.ok (.ret .none)) { s with heap := h', toks := tk }) :
    codeAny (model prog w) A (.call (.ref fI) ⟨[.ref y, v], []⟩) R s := by
  obtain ⟨q, oc, od, doc, pm, an, c, cc, ct, osl, m, p1, p2, a1, a2, a3, a4, a5, a6, b1, b2, b3, b4, lk, hcd, TX, ⟨cl, cld, csl, lcc⟩, ocl, ocd, vs, ocs, file, tf, lc, hvs, hfile⟩ := T.fn
  obtain ⟨B, newId, initId, bmB, BT, ow, hsi, hsB⟩ := T.cls
  obtain ⟨nm, N, qn, bs, bm, sn, sub, ab, col, dd, k0, k1, k2, k3, k5, lC, ht⟩ := ownCls_of ow
  have hcl : clsIn K C = some { name := nm, bases := bs, mro := .ref C :: bm, ns := N, qualname := qn, hasDict := true, slotNames := sn, subclasses := sub, abstract := ab, collection := col, hasDel := false } := by unfold clsIn; rw [lC] <;> rfl
  have mo : mroIn K C (.type "object") = some true := by
    unfold mroIn
    rw [hcl]
    show (if (Value.ref C :: bm).isEmpty = true then none else some ((Value.ref C :: bm).contains (.type "object"))) = some true
    rw [if_neg (fun z => nomatch z), List.contains_cons, excTail_contains "object" bm ht, BT.obj, Bool.or_true]
  have nf : f ≠ "self" := fun z => by have := T.nm.ne; rw [z] at this; exact absurd this (by decide)
  refine ks_codeAny_call_defAt (fd := fnX "__init__" q (erA f p1 p2) (erB f m a1 a2 a3 a4 a5 a6 b1 b2 b3 b4) (erS f) [("__class__", cc)] .none .none doc pm an (.ref c) ct) (body := erB f m a1 a2 a3 a4 a5 a6 b1 b2 b3 b4) (binds := [("self", .ref y), (f, v)]) room (X _ _ lk) rfl lim (codeRec_of X hcd) rfl
    (BindsTo.of_eq (T.nm.bd _ _ _ _ _ _ _ _ _ _ _ _)) (fun z hz => ?_) (fun z hz => ?_) (fun h1 ns k => ?_)
  · simp only [erS, List.mem_cons, List.not_mem_nil, or_false] at hz
    rcases hz with rfl | rfl | rfl | rfl <;> exact fun q => nomatch q
  · simp only [List.mem_cons, List.not_mem_nil, or_false] at hz
    rcases hz with rfl | rfl
    · rfl
    · exact T.nm.kf
  have X1 : K.In h1 := X.keeps k
  have hx1 := k _ _ hx
  have vself : (fun x => (List.reverse [(("self" : Str), Value.ref y), (f, v)]).lookup x) "self" = some (.ref y) := by
    have e : (("self" : Str) == f) = false := by rw [Bool.eq_false_iff]; exact fun z => nf (eq_of_beq z).symm
    simp [List.lookup, e]
  have vf : (fun x => (List.reverse [(("self" : Str), Value.ref y), (f, v)]).lookup x) f = some v := by simp [List.lookup]
  have ksup := T.nm.ks
  have kcls := T.nm.kc
  obtain ⟨mb, hb1, hb2⟩ := hb
  obtain ⟨pl, hev⟩ := TX.ev (callEnv (fnX "__init__" q (erA f p1 p2) (erB f m a1 a2 a3 a4 a5 a6 b1 b2 b3 b4) (erS f) [("__class__", cc)] .none .none doc pm an (.ref c) ct) s.heap.objs.size fI)
  refine ks_wpAt_execs_cons (ks_wpAt_Expr_any (ks_wpAt_MethodCall (pl := pl) ?_ hev) rfl (TX.s1 _))
  refine ks_wpAt_super_base (of := ⟨oc, od, .func (fnX "__init__" q (erA f p1 p2) (erB f m a1 a2 a3 a4 a5 a6 b1 b2 b3 b4) (erS f) [("__class__", cc)] .none .none doc pm an (.ref c) ct), osl⟩) (ar := ⟨"self", none, p1⟩) ksup kcls (by decide) rfl (k _ _ (X _ _ lk)) rfl rfl rfl (k _ _ (X _ _ lc)) rfl hvs hfile T.top ?_
  refine ks_loadName_global rfl ksup (loadGlobal_builtin (hg.keeps k) T.su (hb1.keeps k) ((hb2 _ (by decide)).trans Boot.«super») ⟨rfl, ?_⟩)
  refine wpAny_loadName_free rfl kcls (c := cc) rfl ⟨_, X1 _ _ lcc, rfl⟩ ?_
  refine wpAny_loadName_local rfl rfl ns vself ?_
  refine ks_wpAny_isType_cls (X1 _ _ lC) rfl ⟨rfl, ?_⟩
  have sub0 : mroIn K C (.ref C) = some true := by
    unfold mroIn
    rw [hcl]
    show (if (Value.ref C :: bm).isEmpty = true then none else some ((Value.ref C :: bm).contains (.ref C))) = some true
    rw [if_neg (fun z => nomatch z), List.contains_cons, beq_self_eq_true, Bool.true_or]
  have hyC : y ≠ C := fun z => by rw [z, X _ _ lC] at hx; cases hx
  refine ks_wpAny_call_super (X1 _ _ lC) rfl hx1 rfl (fun c z => nomatch z) (looks_mroIn X1 sub0) (fun h2 e2 k2 => ?_)
  have X2 : K.In h2 := X1.keeps k2
  have hal : alongIn K "__init__" bm = some (some (.builtin initId)) := by
    unfold ks_superIn at hsi
    rw [hcl] at hsi
    have := hsi
    rw [Option.bind_some] at this
    rw [← drop_first C bm]
    exact this
  have I2 : InstAt h2 y (excO C t0) C none := ⟨k2 _ _ hx1, rfl, rfl, trivial⟩
  refine kxs_getMethod BT.sup e2 (looks_opaque X2 T.op) (l₀ := .ref C :: bm) ((looks_clsIn X2 hcl).andThen .now) (drop_first C bm) X2 hal (I2.type.andThen (looks_subIn X2 hsB)) hyC (by decide) ?_
  have k3 : ∀ b o, h2.get? b = some o → (h2.push (kxs_mw initId y)).get? b = some o := fun b o e => Heap.get?_push_of_some _ e
  rw [TX.st]
  refine kxs_callWith (i := initId) (x := y) (by show (false || (backTo a5 (starEach [] _)).any (·.1)) = false; rw [TX.pl]; rfl) (evalArgs_plain ?_)
  show wpAny _ _ (spliced ((false, eval (.Constant (.str m) 0 a4) _) :: backTo a5 (starEach [] _))) _ _ _
  refine spliced_cons (Constant_str (spliced_nil ⟨Heap.get?_push_size _ rfl, ?_⟩))
  refine er_bound BT.base (k3 _ _ (X2 _ _ lC)) (k3 _ _ (k2 _ _ hx1)) (Heap.get?_push_size _ rfl) (by show 1 ≤ sizeLine; rw [sizeLine_eq]; decide) (fun h4 t1 k4 e4 => ?_)
  have k14 : ∀ b o, b ≠ y → h1.get? b = some o → h4.get? b = some o := fun b o n e => k4 b o n (k3 _ _ (k2 _ _ e))
  have X4 : K.In h4 := fun b o e => k14 b o (fun z => by rw [z, hK] at e; cases e) (X1 _ _ e)
  have Ly : s.heap.objs.size ≠ y := Nat.ne_of_gt (Heap.lt_size hx)
  have ns4 : h4.Ns s.heap.objs.size (fun x => (List.reverse [(("self" : Str), Value.ref y), (f, v)]).lookup x) := by
    obtain ⟨o, es, ep, ho, r⟩ := ns
    exact ⟨o, es, ep, k14 _ _ Ly ho, r⟩
  refine ks_wpAt_execs_cons (wpAt_of_wpAny (plainObj_wpAny_Assign_Attribute ?_ (TX.s2 _)))
  refine wpAny_Name (wpAny_loadName_local rfl T.nm.kf ns4 vf ?_) T.nm.nd
  refine wpAny_Name (wpAny_loadName_local rfl rfl ns4 vself ?_) (by decide)
  refine set_plain X4 (ox := excO C t1) (od := none) ⟨e4, rfl, rfl, trivial⟩ T.sa ?_
  refine er_store X4 e4 hcl rfl (by rw [refuseLoop_ref]; exact excTail_pass _ (BT.pass _) bm ht) mo T.no (fun h5 tk5 dx k5 dn dne hx5 hn5 => ?_)
  refine wpAt_of_wpAny (wpAny_execs_nil (hq h5 _ dx ⟨fun b o hb e => k5 b o hb (k14 b o hb (k b o e)), ⟨t1, hx5⟩, ?_, dne, hn5⟩))
  obtain ⟨oL, _, _, hoL, _⟩ := ns4
  exact Nat.le_trans (Nat.le_of_lt (Heap.lt_size hoL)) dn
theorem er_made {v : Value} (T : ErT prog K mg x f C fI) (X : K.In s.heap) (lim : s.heap.NoLimit) (hg : s.heap.Ns mainGlobals mg) (hb : ∃ mb, s.heap.Ns builtinsNs mb ∧ ∀ z : Str, z ≠ "__name__" → mb z = bootBuiltins z)
    (room : A.depth + 1 < recursionLimit) (hq : ∀ h' tk e d, ErMade s.heap h' e C d f v → R (.ok (.ret (.ref e))) { s with heap := h', toks := tk }) : codeAny (model prog w) A (.call (.ref C) ⟨[v], []⟩) R s := by
  obtain ⟨B, newId, initId, bmB, BT, ow, _, _⟩ := id T.cls
  obtain ⟨nm, N, qn, bs, bm, sn, sub, ab, col, dd, k0, k1, k2, k3, k5, lC, ht⟩ := ownCls_of ow
  obtain ⟨h0, g, dr, tk, os⟩ := s
  have k : ∀ b o, h0.get? b = some o → ((h0.push (kdv_tup [v])).push (excO C h0.objs.size)).get? b = some o := fun b o e => Heap.get?_push_of_some _ (Heap.get?_push_of_some _ e)
  have hget : ((h0.push (kdv_tup [v])).push (excO C h0.objs.size)).get? (h0.objs.size + 1) = some (excO C h0.objs.size) := by heap_get
  have hK : K.lookup (h0.objs.size + 1) = none := by
    cases e : K.lookup (h0.objs.size + 1) with
    | none => rfl
    | some o =>
      have z := Heap.lt_size (X _ _ e)
      exact absurd (Nat.lt_of_succ_lt z) (Nat.lt_irrefl _)
  refine call_own BT.base (fun Y => excTail_contains Y bm ht) (X _ _ lC) (looks_findIn X T.iC) (fun self => bind_fn X self T.tI) (by show 1 ≤ sizeLine; rw [sizeLine_eq]; decide) ?_
  obtain ⟨mb, b1, b2⟩ := hb
  refine er_init (s := ⟨(h0.push (kdv_tup [v])).push (excO C h0.objs.size), g, dr, tk, os⟩) T (X.keeps k) (lim.keeps k) (hg.keeps k) ⟨mb, b1.keeps k, b2⟩ hget hK room fun h' tk' dx M => ?_
  obtain ⟨t1, hx⟩ := M.obj
  refine ⟨rfl, hq h' tk' _ dx ⟨fun b o e => M.keep b o (Nat.ne_of_lt (Nat.lt_succ_of_lt (Heap.lt_size e))) (k b o e), Nat.le_succ _, ⟨_, _, hx, rfl, rfl, rfl, rfl⟩, ?_, M.ne, M.ns⟩⟩
  have z : ((h0.push (kdv_tup [v])).push (excO C h0.objs.size)).objs.size ≤ dx := M.big
  rw [Heap.size_push, Heap.size_push] at z
  show h0.objs.size ≤ dx
  omega
end
end MNE
/-! raise X(e), X an own exception that keeps e; calls that may raise; a lambda given to a def that catches -/
namespace MN
open PySem PySem.Spec PyProof.Rows L2 MNE
theorem relO_one {f : Str} {v : V} {u : Value} (r : RelV v u) (y : Str) : RelO (List.lookup y [(f, v)]) (if y = f then some u else none) := by
  by_cases h : y = f
  · rw [if_pos h, h]
    have e : List.lookup f [(f, v)] = some v := by simp [List.lookup]
    rw [e]
    exact r
  · rw [if_neg h]
    have e : (y == f) = false := by rw [Bool.eq_false_iff]; exact fun z => h (eq_of_beq z)
    have e2 : List.lookup y [(f, v)] = none := by simp [List.lookup, e]
    rw [e2]
    trivial
section
variable {X : Cx} {C fI : Addr} {x f : Str}
/-- X(e): d is its dict, new -/
def tMkE (C : Addr) (f : Str) (ta : TA) : L2.St → Hp → XK → Prop := fun σ H Q => ta σ H fun vs H1 => ∃ v, vs = [v] ∧ ∀ d, H1 d = none → Q (.ref C) (some d) (upd H1 d (.xd [(f, v)]))
theorem pmk_er {a : Expr} {ta : TA} {p pos : Pos} {k : Nat} (T : ErT X.prog X.K X.mg x f C fI) (hr : Room k X.A) (hk : 1 ≤ k) (hg : Gl X x) (ha : PA X [a] ta) (hd : (x == ("__debug__" : Str)) = false := by decide)
    (he : starEach (a :: []) X.env = (false, eval a X.env) :: starEach [] X.env := by rfl) (hpl : (backTo pos (starEach [] X.env)).any (·.1) = false := by rfl) : PMk X (.Call (.Name x p) [a] [] pos) (tMkE C f ta) := by
  intro pins s σ H Q I h
  refine wpAny_Call_Name_kw (ld_glob I hg T.gC ?_ hd)
  refine PySem.W.callWith_K (h₀ := X.base) I.ok.mod.kin T.kC (thn (ha.run pos pins s σ H _ I h) fun us s1 z => ?_) he hpl
  obtain ⟨vs, H1, I1, r1, v, rfl, q⟩ := z
  refine ⟨I1.kIn, ?_⟩
  match us, r1 with
  | [u], .cons rv .nil =>
    show wpAny _ _ (call (.ref C) [u]) _ _ _
    obtain ⟨mb, b1, b2⟩ := I1.mod.blt
    have X1 := I1.kIn
    have lim := I1.nolimit
    have hg1 := I1.mod.glob.keeps I1.bk
    have hb1 := b1.keeps I1.bk
    have bare := I1.bare
    obtain ⟨h0, g, dr, tk, os⟩ := s1
    refine wpAny_call (er_made (f := f) T X1 lim hg1 ⟨mb, hb1, b2⟩ (by have := hr.dp; omega) fun h' tk' e d M => ?_)
    show MkP X pins σ Q (.ref e) ⟨h', g, dr, tk', os⟩
    obtain ⟨oe, fv, hoe, hc, hdx, hdat, h1⟩ := M.obj
    obtain ⟨G, g1, g2⟩ := restrict h' fun b => decide (b ≠ e)
    have gk : ∀ b, b ≠ e → G.get? b = h'.get? b := fun b hb => g1 b (decide_eq_true hb)
    have ge : G.get? e = none := g2 e (by simp)
    have old : ∀ b o, h0.get? b = some o → G.get? b = some o := fun b o q => (gk b (Nat.ne_of_lt (Nat.lt_of_lt_of_le (Heap.lt_size q) M.new))).trans (M.keep b o q)
    have ob : ObjOk X.prog X.w (upd H1 d (.xd [(f, v)])) G d (.xd [(f, v)]) := ⟨_, M.ns.at (fun o q => (gk d M.ne).trans q), fun y => relO_one rv y⟩
    have J : Inv X pins σ (upd H1 d (.xd [(f, v)])) ⟨G, g, dr, tk', os⟩ := I1.laid (t' := tk') old M.big ob
    refine ⟨e, oe, fv, ⟨G, g, dr, tk', os⟩, _, .ref C, some d, rfl, J, fun b o q => ?_, ge, hoe, ⟨hc, hdx⟩, hdat, h1, ?_, rfl, bare, raises_own T.xf.exC T.tC, q d (I1.hok.fresh M.big)⟩
    · have hb : b ≠ e := fun z => by
        have q' : G.get? b = some o := q
        rw [z, ge] at q'
        cases q'
      exact (gk b hb).symm.trans q
    · rw [upd_ne (Ne.symm M.ne)]
      exact I1.hok.fresh M.new
end
/-- a def that may raise, called by its name -/
structure CalX (P : Program) (w : World) (K : PySem.W.Frag) (mg : Str → Option Value) (base : Heap) (k : Nat) (x : Str) (sp : Sp) : Prop where
  ex : ∃ (f : Addr) (fd : FuncData) (ps : List Str), FnOk P w K mg base (L2.CX P w) k f fd ps sp ∧ mg x = some (.ref f) ∧ PySem.W.keepIn K (.ref f) = true ∧ Binds K fd ps []
section
variable {P : Program} {w : World} {K : PySem.W.Frag} {mg : Str → Option Value} {base : Heap}
theorem calX_of {x : Str} {st : Stmt} {N ps : List Str} {k : Nat} {sp : Sp} (A : At K mg x st) (S : FnScope N ps (defScope st)) (hb : BindEq x st ps) (len : ∀ vs H Q E, sp vs H Q E → vs.length = ps.length)
    (hbody : ∀ (f : Addr) (cdv : Value) (A : Around) (outer : List Env) (s : Shared) (H : Hp) (vs : List V) (Q : VK) (E : XK), Room k (A.deeper (envOfC x (defScope st) s.heap.objs.size f cdv)) → sp vs H Q E →
      ∃ t, PSs (cxOf (L2.CX P w) P w K mg base N x (defScope st) f cdv A outer s H E) (defBody st) t ∧ t { nx := fun _ H' => Q .non H', rt := Q } (start N vs) H) : CalX P w K mg base (k + 1) x sp := by
  obtain ⟨f, fd, F, hm⟩ := A
  exact ⟨f, fd, ps, F.ok S len fun cdv A outer s H vs Q E hr h => hbody f cdv A outer s H vs Q E hr h, hm, F.kp, F.bindsN hb⟩
end
section
variable {X : Cx} {k j : Nat} {x : Str} {sp : Sp} {p pos : Pos} {e : Expr} {es : List Expr} {t : TA} {W : WX}
theorem pe_cX (c : CalX X.prog X.w X.K X.mg X.base k x sp) (tk : Takes X W) (hr : Room j X.A) (hk : k ≤ j) (hg : Gl X x) (ha : PA X (e :: es) t) (hdb : (x == ("__debug__" : Str)) = false := by decide) (he : starEach (e :: es) X.env = (false, eval e X.env) :: starEach es X.env := by rfl)
    (hpl : (backTo pos (starEach es X.env)).any (·.1) = false := by rfl) : PE X (.Call (.Name x p) (e :: es) [] pos) (fun σ H Q => t σ H fun vs H1 => sp vs H1 Q (WE W σ)) := by
  obtain ⟨f, fd, ps, F, hm, kp, b⟩ := c.ex
  exact pe_callS F (hr.mono hk) hg hm kp b (fun σ => passAt tk σ) ha hdb he hpl
end
end MN
/-! repr of any small value; a def that calls what it got and tells the error by a word; a lambda given to it -/
namespace MN
open PySem PySem.Spec PyProof.Rows L2 LamX
inductive ReprV (K : PySem.W.Frag) (H : Hp) : V → Str → Prop
  | non : ReprV K H .non "None"
  | bl (b : Bool) : ReprV K H (.bl b) (if b then "True" else "False")
  | int (i : Int) (h : i.natAbs.log2 < 1920) : ReprV K H (.int i) (toString i)
  | str (z : Str) (h : (reprText z).length ≤ sizeLine) : ReprV K H (.str z) (reprText z)
  | dat {x : V} {d : PyData} (h : Dp K H x d) (h1 : isDisplay d = true) (h2 : d.showable = true) (h3 : d.hasDict = false) (h4 : d.depth ≤ 60) (h5 : d.shown.length ≤ sizeLine) : ReprV K H x d.shown
  | emp {a : Addr} (h : H a = some (.dK [])) : ReprV K H (.ref a) "{}"
def rReprV (K : PySem.W.Frag) : List V → Hp → VK → Prop := fun xs H Q => ∃ x z, xs = [x] ∧ ReprV K H x z ∧ Q (.str z) H
section
variable {X : Cx}
theorem call_reprV (gd : X.A.guards = some []) (hu : X.A.units + 64 < cLine) : CallR X (.builtin "repr") (rReprV X.K) := by
  intro pins s σ H vs us Q I r h
  obtain ⟨x, z, rfl, hr, q⟩ := h
  match us, r with
  | [u], .cons rx .nil =>
    cases hr with
    | non =>
      cases rx
      exact PySem.P.repr_of_none ⟨.str _, H, I.tok _, ⟨_, rfl⟩, q⟩
    | bl b =>
      cases rx
      exact PySem.P.repr_of_bool ⟨.str _, H, I.tok _, ⟨_, rfl⟩, q⟩
    | int i hz =>
      obtain ⟨t, rfl⟩ := rx
      exact PySem.P.repr_of_int hz ⟨.str _, H, I.tok _, ⟨_, rfl⟩, q⟩
    | str y hz =>
      obtain ⟨t, rfl⟩ := rx
      exact PySem.P.repr_of_str ⟨.str _, H, I.tok _, ⟨_, rfl⟩, q⟩ hz
    | @dat _ d hd h1 h2 h3 h4 h5 =>
      exact call_repr gd hu pins s σ H [x] [u] Q I (.cons rx .nil) ⟨x, d, rfl, hd, h1, h2, h3, h4, h5, q⟩
    | @emp a ha =>
      obtain rfl : u = Value.ref a := rx
      have ob : ObjOk X.prog X.w H s.heap a (.dK []) := I.hok a _ ha
      obtain ⟨_, hne, vs, kv, hd⟩ := ob
      obtain ⟨o, es, ep, ho, hx, hdt, _, hps, _⟩ := hd
      cases kv
      have e0 : es = #[] := by
        cases es with
        | mk l =>
          have z : PySem.Pairs (mixKind X.prog X.w) l [] := hps
          cases z
          rfl
      subst e0
      have rd : Reads s.heap (.ref a) (.dict []) ([a] ++ [] ++ []) := .dict ho hx.1 hdt .nil .nil
      refine repr_of_reads' rd rfl (fun _ hm => ?_) gd (by show X.A.units + (PyData.depth (.dict []) + 1) < cLine; simp [PyData.depth, PyData.depthKv]; omega) (fun _ _ e => e) (fun h' u tk hk => ?_) (by decide)
      · have : sysModules = a := by simpa using hm
        exact absurd hne (by rw [← this]; decide)
      · exact ⟨.str _, H, I.kept hk, ⟨u, rfl⟩, q⟩
end
/-- a word for each class; with a field: the word and what repr tells of it -/
abbrev Mc : Type := Addr × Str × Option Str
def metE (K : PySem.W.Frag) (Q : VK) : List Mc → XK
  | [] => fun _ _ _ => False
  | (C, z, none) :: r => fun cls d H => ∃ b, PySem.W.exmOne K cls (.ref C) = some b ∧ (b = true → Q (.str z) H) ∧ (b = false → metE K Q r cls d H)
  | (C, z, some f) :: r => fun cls d H => ∃ b, PySem.W.exmOne K cls (.ref C) = some b ∧ (b = true → cls = .ref C ∧ ∃ dd v y, d = some dd ∧ H dd = some (.xd [(f, v)]) ∧ ReprV K H v y ∧ z.length + y.length ≤ sizeLine ∧ Q (.str (z ++ y)) H) ∧ (b = false → metE K Q r cls d H)
/-- the reading of the suites -/
def tsE (K : PySem.W.Frag) (i : Nat) : Mc → Addr → Value → Option Addr → TS
  | (_, z, none), _, _, _ => tRet (tC (.str z))
  | (C, z, some f), a, cls, d => tRet (tOp (fun x y H Q => ∃ i j, x = .str i ∧ y = .str j ∧ i.length + j.length ≤ sizeLine ∧ Q (.str (i ++ j)) H) (tC (.str z)) (fun σ H Q => tCons (tXf a cls d C f (tVar i)) tNil σ H fun vs H1 => rReprV K vs H1 Q))
def clE (K : PySem.W.Frag) (i : Nat) (m : Mc) : Clz := (.ref m.1, m.2.2.map fun _ => i, tsE K i m)
theorem metE_clz {K : PySem.W.Frag} {Q : VK} {nx : L2.St → Hp → Prop} {i : Nat} {cls : Value} {d : Option Addr} {σ : L2.St} {H : Hp} (hi : i < σ.length) : ∀ {l : List Mc}, metE K Q l cls d H → wClz K (fun _ _ _ _ => False) { nx := nx, rt := Q } (l.map (clE K i)) cls d σ H
  | [], h => h
  | (C, z, none) :: r, ⟨b, e, y, n⟩ => ⟨b, e, fun hb a _ => y hb, fun hb => metE_clz hi (n hb)⟩
  | (C, z, some f) :: r, ⟨b, e, y, n⟩ => ⟨b, e, fun hb a ha => by
      obtain ⟨hc, dd, v, w, hd, hdd, hr, hz, q⟩ := y hb
      refine ⟨.ref a, (by show (σ.set i (some (.ref a)))[i]? = _; rw [List.getElem?_set_self hi]), rfl, hc, dd, _, v, hd, hdd, ?_, ?_⟩
      · simp [List.lookup]
      · exact ⟨v, w, rfl, hr, z, w, rfl, rfl, hz, q⟩, fun hb => metE_clz hi (n hb)⟩
theorem takes_len {X : Cx} {W : WX} {n : Nat} (h : X.N.length = n) (t : Takes X W) : Takes X (fun cls d σ H => σ.length = n → W cls d σ H) := fun u s' ⟨a, B, sI, pins, σ, H, cls, d, e, I, nb, up, sky, na, os, ag, w⟩ => t u s' ⟨a, B, sI, pins, σ, H, cls, d, e, I, nb, up, sky, na, os, ag, w (I.len.trans h)⟩
/-- what is made of the lambda's reading -/
def TMet (K : PySem.W.Frag) (l : List Mc) : (XK → Hp → VK → Prop) → Hp → VK → Prop := fun tl H Q => tl (metE K Q l) H (fun _ H' => Q (.str "fine") H')
section
variable {X : Cx}
theorem met_gives {x a q : Str} {sg : Scope} {g : Addr} {cdg : Value} {l : List Mc} {h0 : ExceptHandler} {hds : List ExceptHandler} {j : Nat} {p1 p2 p3 p4 p5 p6 : Pos} {y : Str}
    (hc : ∀ (s : Shared) (H : Hp), ClzOk (cxOf C8.CX0 X.prog X.w X.K X.mg X.base [a, y] x sg g cdg X.A X.stack s H C8.E0).nox (h0 :: hds) (l.map (clE X.K 1))) :
    GivesTo X [a, y] x sg g cdg [.Try [.Expr (.Call (.Name a p1) [] [] p2) p3] (h0 :: hds) [] [] p4, .Return (some (.Constant (.str "fine") j p5)) p6] a q (TMet X.K l) := by
  intro f c' s H Q tl act hco h
  refine ⟨_, pss_cons (ps_try_n (X := (cxOf C8.CX0 X.prog X.w X.K X.mg X.base [a, y] x sg g cdg X.A X.stack s H C8.E0).nox) (l := l.map (clE X.K 1)) rfl rfl LamX.takes0
    (tb := fun W D σ H => ∃ E : XK, (∀ cls d σ' H', E cls d H' → σ'.length = 2 → W cls d σ' H') ∧ σ[0]? = some (some (.ref f)) ∧ H c' = some (LamX.CodeO c' q) ∧ tl E H (fun _ H' => D.nx σ H')) (fun W pn xe tk => ?_) (hc s H)) (pss_one (ps_ret pe_str)), ?_⟩
  · refine ⟨fun pins s1 σ H1 D I h1 => ?_⟩
    obtain ⟨E, hW, h2, h3, h4⟩ := h1
    exact (pss_one (ps_expr (act (fun cls d σ H => σ.length = 2 → W cls d σ H) pn xe E p1 p2 (takes_len rfl tk) fun cls d σ' H' e hl => hW cls d σ' H' e hl))).run pins s1 σ H1 D I ⟨h2, h3, h4⟩
  · exact ⟨metE X.K Q l, fun cls d σ' H' e hl => metE_clz (by omega) e, rfl, hco, h⟩
end
end MN
/-! the end of a law's row whose defs make lambdas: the tables of code objects are tracked -/
namespace MN
open PySem PySem.Spec PyProof.Rows L2
/-- all but tables stays -/
abbrev ExtN (H H' : Hp) : Prop := LamX.ExtN H H'
/-- the heap at the law's call: the script, and the makers' tables, each empty -/
structure OnlyT (K : PySem.W.Frag) (s : Shared) (cs : List (Addr × Addr)) (H : Hp) : Prop where
  tab : ∀ p ∈ cs, H p.2 = some (.tbl #[])
  all : ∀ b u, H b = some u → K.lookup b = none ∧ ((∃ o xs vs n, u = .frz o (.lst xs) ∧ s.heap.get? b = some o ∧ o.data = .seq vs n) ∨ (u = .tbl #[] ∧ (∃ p ∈ cs, p.2 = b) ∧ s.heap.get? b = some (PySem.W.tabObj #[])))
theorem law_gT {P : Program} {w : World} {K : PySem.W.Frag} {mg mb : Str → Option Value} {k : Nat} {fa a : Addr} {cs : List (Addr × Addr)} {fd : FuncData} {x : Str} {sp : Sp} {s : Shared} {vs : List Value} {ns : List Int}
    (KX : K.In s.heap) (hns : s.heap.Ns mainGlobals mg) (hb : s.heap.Ns builtinsNs mb) (hbb : ∀ x : Str, x ≠ "__name__" → mb x = bootBuiltins x) (lim : s.heap.NoLimit) (hg : s.gens = #[])
    (T0 : ∀ p ∈ cs, s.heap.get? p.2 = some (PySem.W.tabObj #[])) (T1 : ∀ p ∈ cs, K.lookup p.2 = none) (T2 : ∀ p ∈ cs, PySem.W.CodeHd s.heap p.1 p.2)
    (hm : ∃ (bm : Addr) (ob : Obj), mg "__builtins__" = some (.ref bm) ∧ bm ≠ builtinsNs ∧ s.heap.get? bm = some ob ∧ ob.cls = .type "module" ∧ ob.dict = some builtinsNs ∧ ob.data = .plain)
    (ha : s.heap.get? a = some { cls := .type "list", data := .seq vs.toArray }) (hi : IntsAre vs ns) (hl : ns.length ≤ sizeLine) (hr : Room k callerA)
    (F : ∀ base : Heap, K.In base → base.Ns mainGlobals mg → (∀ p ∈ cs, LamX.TabB base mg p.1 p.2) → FnG P w K mg base k fa fd [x] sp) (hbind : ∀ (s : Shared) (u : Value), BindsTo s fd ⟨[u], []⟩ [(x, u)])
    (hsp : ∀ H : Hp, (∀ p ∈ cs, H p.2 = some (.tbl #[])) → SqL K H a (ns.map V.int) → sp [.ref a] H (fun v _ => v = .bl true) E0) :
    codeAny (model P w) callerA (.call (.ref fa) ⟨[.ref a], []⟩) (fun r s' => r = .ok (.ret (.bool true)) ∧ OldK s.heap s'.heap ∧ s'.os = s.os ∧ AllBare s'.gens) s := by
  have rv := vals_ints hi
  have lv := hi.length
  have core : ∀ H : Hp, OnlyT K s cs H → SqL K H a (ns.map V.int) → HOk P w H s.heap → codeAny (model P w) callerA (.call (.ref fa) ⟨[.ref a], []⟩) (fun r s' => r = .ok (.ret (.bool true)) ∧ OldK s.heap s'.heap ∧ s'.os = s.os ∧ AllBare s'.gens) s := by
    intro H O hS hok
    have stays : ∀ {b : Addr} {o : Obj}, s.heap.get? b = some o → (∀ vs n, o.data ≠ .seq vs n) → o.data ≠ .fields #[] → (hidT s.heap H).get? b = some o := fun {b o} e n1 n2 => by
      refine hidT_get e ?_
      cases q : H b with
      | none => rfl
      | some u =>
        rcases (O.all b u q).2 with ⟨o', _, vs, n, _, e', d⟩ | ⟨_, _, e'⟩
        · rw [e] at e'
          cases e'
          exact absurd d (n1 _ _)
        · rw [e] at e'
          cases e'
          exact absurd rfl n2
    have names : ∀ {b : Addr} {m : Str → Option Value}, s.heap.Ns b m → (hidT s.heap H).Ns b m := fun {b m} ⟨o, es, ep, e, d, r⟩ => ⟨o, es, ep, stays e (fun vs n z => by rw [d] at z; cases z) (fun z => by rw [d] at z; cases z), d, r⟩
    have inK : K.In (hidT s.heap H) := fun b o e => hidT_get (KX b o e) (by
      cases q : H b with
      | none => rfl
      | some u =>
        rw [(O.all b u q).1] at e
        cases e)
    have md : Mod K mg (hidT s.heap H) := by
      obtain ⟨mc, h1, h2⟩ := lim
      exact ⟨inK, names hns, ⟨mb, names hb, hbb⟩, ⟨mc, names h1, h2⟩⟩
    have tb : ∀ p ∈ cs, LamX.TabB (hidT s.heap H) mg p.1 p.2 := fun p hp => by
      obtain ⟨o, us, file, tf, fl, tg, inF, tx, tt, e1, r1, r2, r3, r⟩ := T2 p hp
      obtain ⟨bm, ob, b1, b2, b3, b4, b5, b6⟩ := hm
      refine ⟨⟨o, us, file, tf, fl, tg, inF, tx, tt, stays e1 (fun vs n z => by rw [r2] at z; cases z) (fun z => ?_), r1, r2, r3, r⟩, ⟨bm, ob, b1, b2, fun q => ?_, fun q => ?_, stays b3 (fun vs n z => by rw [b6] at z; cases z) (fun z => by rw [b6] at z; cases z), b4, b5, b6⟩, fun q => ?_⟩
      · rw [r2] at z
        cases z
        simp at r3
      · obtain ⟨o', es, ep, e', d', _⟩ := hns
        rw [q, e'] at b3
        cases b3
        rw [d'] at b6
        cases b6
      · rw [q, T0 p hp] at b3
        cases b3
        cases b6
      · obtain ⟨o', es, ep, e', d', _⟩ := hns
        rw [q, T0 p hp] at e'
        cases e'
        cases d'
    have e0 : Env0 P w K mg (hidT s.heap H) callerA [] s H := ⟨rfl, md, fun b o e => of_hidT e, Nat.le_of_eq (hidT_size _ _), trivial, fun b hb => (nomatch (show b ∈ ([] : List Addr) from hb)), hok, .of_eq hg⟩
    refine codeAny_mono ((F _ inK (names hns) tb).run callerA [] s H ⟨[.ref a], []⟩ [.ref a] [.ref a] _ _ rfl hr e0 (hbind s (.ref a)) (.cons rfl .nil) (hsp H O.tab hS)) fun r s' h => ?_
    match r, h with
    | .ok (.ret u), ⟨v, H', os, bare, un, hok', r', q⟩ =>
      cases (show v = .bl true from q)
      cases (show u = Value.bool true from r')
      have cases3 : ∀ b o, s.heap.get? b = some o → s'.heap.get? b = some o ∨ ((∃ p ∈ cs, p.2 = b) ∧ o = PySem.W.tabObj #[] ∧ ∃ more : Array Value, s'.heap.get? b = some (PySem.W.tabObj more)) := fun b o e => by
        cases q : H b with
        | none => exact .inl (un.keep b o e q (fun y => nomatch (show b ∈ ([] : List Addr) from y)) (fun y => nomatch (show b ∈ ([] : List Addr) from y)))
        | some u =>
          rcases (O.all b u q).2 with ⟨o', xs, vs, n, rfl, e', d⟩ | ⟨rfl, hp, e'⟩
          · rw [e] at e'
            cases e'
            exact .inl (hok' b _ (un.frzs b _ _ q)).1
          · rw [e] at e'
            cases e'
            obtain ⟨more, z⟩ := un.tbls b #[] q
            exact .inr ⟨hp, rfl, _, hok' b _ z⟩
      refine ⟨rfl, ⟨fun b o e => ?_, fun b o e => ?_⟩, os, bare⟩
      · rcases cases3 b o e with h | ⟨⟨p, hp, rfl⟩, rfl, more, h⟩
        · exact .inl h
        · exact .inr (.inl ⟨((T2 p hp).tab (T0 p hp)).isCodeTable, rfl, #[], more, rfl, by rw [Array.empty_append]; exact h⟩)
      · rcases cases3 b o e with h | ⟨_, _, more, h⟩
        · exact ⟨o, h⟩
        · exact ⟨_, h⟩
  have aT : ∀ p ∈ cs, p.2 ≠ a := fun p hp z => by
    have e := T0 p hp
    rw [z, ha] at e
    cases (show Data.seq vs.toArray _ = Data.fields #[] from congrArg Obj.data (Option.some.inj e))
  let H0 : Hp := fun b => if ∃ p ∈ cs, p.2 = b then some (.tbl #[]) else none
  have t0 : ∀ p ∈ cs, H0 p.2 = some (.tbl #[]) := fun p hp => if_pos ⟨p, hp, rfl⟩
  have inv0 : ∀ b u, H0 b = some u → u = .tbl #[] ∧ ∃ p ∈ cs, p.2 = b := fun b u e => by
    by_cases hb : ∃ p ∈ cs, p.2 = b
    · exact ⟨(Option.some.inj ((if_pos hb).symm.trans e)).symm, hb⟩
    · exact absurd ((if_neg hb).symm.trans e) (fun z => nomatch z)
  have o0 : OnlyT K s cs H0 := ⟨t0, fun b u e => by
    obtain ⟨rfl, p, hp, rfl⟩ := inv0 b u e
    exact ⟨T1 p hp, .inr ⟨rfl, ⟨p, hp, rfl⟩, T0 p hp⟩⟩⟩
  have k0 : HOk P w H0 s.heap := fun b u e => by
    obtain ⟨rfl, p, hp, rfl⟩ := inv0 b u e
    exact T0 p hp
  cases hk : K.lookup a with
  | some o =>
    have e := KX a o hk
    rw [ha] at e
    cases e
    exact core H0 o0 (.inr ⟨_, vs.toArray, _, hk, rfl, rfl, rfl, by rw [List.size_toArray, lv]; exact hl, by simpa using rv⟩) k0
  | none =>
    let fr : HO := .frz { cls := .type "list", data := .seq vs.toArray } (.lst (ns.map V.int))
    have at_ : ∀ b u, upd H0 a fr b = some u → (b = a ∧ u = fr) ∨ H0 b = some u := fun b u e => by
      by_cases z : b = a
      · rw [z, upd_same] at e
        exact .inl ⟨z, (Option.some.inj e).symm⟩
      · rw [upd_ne z] at e
        exact .inr e
    refine core (upd H0 a fr) ⟨fun p hp => by rw [upd_ne (aT p hp)]; exact t0 p hp, fun b u e => ?_⟩ (.inl (.inr ⟨_, upd_same⟩)) (fun b u e => ?_)
    · rcases at_ b u e with ⟨rfl, rfl⟩ | e
      · exact ⟨hk, .inl ⟨_, _, _, _, rfl, ha, rfl⟩⟩
      · exact o0.all b u e
    · rcases at_ b u e with ⟨rfl, rfl⟩ | e
      · exact ⟨ha, by rw [List.length_map]; exact hl, vs, _, rv, ha⟩
      · obtain ⟨rfl, p, hp, rfl⟩ := inv0 b u e
        exact T0 p hp
theorem walk_gT {l : PySem.W.OpenLaw} {n k : Nat} {q : Program} {loose : List Str} {XP : (Str → Option Value) → Heap → Prop} {YP : World → Heap → Prop} {d : DefRec} {x : Str}
    (hn : l.most = some n) (hn2 : n ≤ sizeLine) (hdf : d.params.defaults = []) (hr : Room k callerA)
    (F : ∀ (w : World) (mg : Str → Option Value) (fa : Addr) (h : Heap), YP w h → h.Ns mainGlobals mg → mg d.name = some (.ref fa) →
      ∃ (K : PySem.W.Frag) (fd : FuncData) (cs : List (Addr × Addr)) (sp : Sp), K.In h ∧ (∀ p ∈ cs, h.get? p.2 = some (PySem.W.tabObj #[])) ∧ (∀ p ∈ cs, K.lookup p.2 = none) ∧ (∀ p ∈ cs, PySem.W.CodeHd h p.1 p.2) ∧ (∀ (s : Shared) (u : Value), BindsTo s fd ⟨[u], []⟩ [(x, u)]) ∧
        (∀ (H : Hp) (a : Addr) (ns : List Int), ns.length ≤ n → (∀ p ∈ cs, H p.2 = some (.tbl #[])) → SqL K H a (ns.map V.int) → sp [.ref a] H (fun v _ => v = .bl true) E0) ∧
        ∀ base : Heap, K.In base → base.Ns mainGlobals mg → (∀ p ∈ cs, LamX.TabB base mg p.1 p.2) → FnG l.prog w K mg base k fa fd [x] sp) :
    PySem.W.WalkO q loose XP YP l.row.toRowW d [] (fun f vs => PySem.call f vs) := by
  refine Att.attach_call hn hdf fun w s₀ s₁ mg mb fa o pm cd doc a vs ns G Y ho hd hcd hmg hobj hints hlen hg => ?_
  obtain ⟨K, fd, cs, sp, KX, h1, h2, h3, hb, hsp, hF⟩ := F w mg fa _ Y G.T.g hmg
  exact law_gT KX G.T.g G.T.b G.T.builtins G.T.nolimit hg h1 h2 h3 G.T.bmain hobj hints (Nat.le_trans hlen hn2) hr hF hb fun H hH hS => hsp H a ns hlen hH hS
end MN
/-! t[::-1] of a tuple -/
namespace MN
open PySem PySem.Spec PyProof.Rows L2
theorem places_back (n : Nat) : Builtin.Slice.slicePlaces ((n : Int) - 1) (-1) (-1) = n := by
  unfold Builtin.Slice.slicePlaces
  rw [if_neg (by decide)]
  by_cases h : n = 0
  · subst h; rfl
  · rw [if_pos (by omega), Int.neg_neg, Int.ediv_one]
    omega
theorem filterMap_some {α β : Type} {f : α → Option β} {g : α → β} : ∀ {l : List α}, (∀ k ∈ l, f k = some (g k)) → l.filterMap f = l.map g
  | [], _ => rfl
  | x :: l, h => by
    rw [List.filterMap_cons, h x List.mem_cons_self, List.map_cons, filterMap_some fun k hk => h k (List.mem_cons_of_mem _ hk)]
theorem pick_back (xs : Array Value) : ((List.range xs.size).filterMap fun (k : Nat) => xs[(((xs.size : Int) - 1) + (k : Int) * (-1)).toNat]?).toArray = xs.toList.reverse.toArray := by
  congr 1
  have e : ∀ k ∈ List.range xs.size, (fun (k : Nat) => xs[(((xs.size : Int) - 1) + (k : Int) * (-1)).toNat]?) k = some (xs.toList.reverse.getD k .none) := by
    intro k hk
    have hk : k < xs.size := List.mem_range.mp hk
    have i : (((xs.size : Int) - 1) + (k : Int) * (-1)).toNat = xs.size - 1 - k := by omega
    simp only [i]
    have hl : k < xs.toList.reverse.length := by simpa using hk
    rw [List.getD_eq_getElem?_getD, List.getElem?_eq_getElem hl, List.getElem_reverse]
    rw [Array.getElem?_eq_getElem (by omega)]
    simp
  rw [filterMap_some e]
  apply List.ext_getElem?
  intro i
  rw [List.getElem?_map]
  by_cases hi : i < xs.size
  · rw [List.getElem?_range hi]
    have hl : i < xs.toList.reverse.length := by simpa using hi
    simp only [Option.map_some]
    rw [List.getD_eq_getElem?_getD, List.getElem?_eq_getElem hl]
    simp
  · rw [List.getElem?_eq_none (by simpa using hi), List.getElem?_eq_none (by simpa using hi)]
    rfl
section
variable {prog : Program} {w : World} {A : Around} {E : Value → Shared → Prop} {s : Shared}
theorem getItem_tuple_back {t sl : Addr} {items : Array Value} {vs : Value} {Q : Value → Shared → Prop} (ht : IsTup s.heap t items) (hs : s.heap.IsSliceOf sl .none .none vs) (ps : IsPart vs (some (-1)))
    (h : Q (.ref s.heap.objs.size) { s with heap := s.heap.push { cls := .type "tuple", data := .seq items.toList.reverse.toArray } }) (hsz : items.size ≤ sizeLine) : wpAny (model prog w) A (getItem (.ref t) (.ref sl)) Q E s := by
  have hok : sizeOk (.seq items.toList.reverse.toArray) := by
    show items.toList.reverse.toArray.size ≤ sizeLine
    simpa using hsz
  obtain ⟨os, hos, hcs, hds⟩ := id hs
  have hTs : s.TypeIs (.ref sl) "slice" := ⟨os, hos, hcs⟩
  unfold getItem
  try with_reducible refine wpAny_holding ?_
  first | refine wpAny_bind (wpAny_pure ?_) | skip
  refine wpAny_bind (wpAny_sequenceKey ht.typeIs (by decide) ?_)
  refine wpAny_bind (wpAny_callSpecial?_slot (name := Str.ofString "__getitem__") ht.typeIs PyProof.Rows.slot_tuple_getitem
    (wpAny_call_entry PyProof.Rows.slot_tuple_getitem ht.typeIs entry_tuple_getitem ?_ (args_tuple_getitem _ _)))
  show wpAny _ _ (Builtin.Tuple.tupleItemsOf (.ref t) >>= _) _ _ s
  refine wpAny_bind (tupleItemsOf_ ht ?_)
  refine wpAny_bind (wpAny_typeOf hTs ?_)
  rw [if_pos (by decide)]
  refine wpAny_bind (m := Builtin.Slice.sliceApplied (.ref sl) (pure (items.size : Int))) ?_
  unfold Builtin.Slice.sliceApplied Builtin.Slice.sliceFields
  refine wpAny_bind (wpAny_bind (wpAny_field hos hds (x := .none) rfl (wpAny_bind (wpAny_field hos hds (x := .none) rfl (wpAny_bind (wpAny_field hos hds (x := vs) rfl (wpAny_pure ?_)))))))
  refine wpAny_bind (HT.slicePart_ ps ?_)
  show wpAny _ _ (if ((-1 : Int) == 0) = true then _ else _) _ _ s
  rw [if_neg (by decide)]
  refine wpAny_bind (HT.slicePart_ .none (wpAny_bind (HT.slicePart_ .none (wpAny_bind (wpAny_pure ?_)))))
  show wpAny _ _ (pure ((items.size : Int) - 1, (-1 : Int), Builtin.Slice.slicePlaces ((items.size : Int) - 1) (-1) (-1))) _ _ s
  rw [places_back]
  refine wpAny_pure ?_
  have hno : ¬ (((items.size : Int) - 1 == 0 && (-1 : Int) == 1 && items.size == items.size) = true) := by simp
  show wpAny _ _ (if ((items.size : Int) - 1 == 0 && (-1 : Int) == 1 && items.size == items.size) = true then _ else _) _ _ s
  rw [if_neg hno, pick_back]
  first
    | exact wpAny_bind (m := Builtin.Tuple.tupleExact _) (wpAny_newObj_type (wpAny_pure ⟨_, rfl, wpAny_pure h⟩) hok)
    | exact wpAny_bind (m := Builtin.Tuple.tupleExact _) (wpAny_newObj_type (wpAny_bind (wpAny_pure (wpAny_pure ⟨_, rfl, wpAny_pure h⟩))) hok)
    | exact wpAny_bind (wpAny_bind (m := Builtin.Tuple.tupleExact _) (wpAny_newObj_type (wpAny_pure (wpAny_pure ⟨_, rfl, wpAny_pure h⟩)) hok))
    | exact wpAny_bind (wpAny_bind (m := Builtin.Tuple.tupleExact _) (wpAny_newObj_type (wpAny_pure ⟨_, rfl, wpAny_pure h⟩) hok))
end
section
variable {X : Cx}
def tRevT (K : PySem.W.Frag) (te : TE) : TE := fun σ H Q => te σ H fun x H1 => ∃ a xs, x = .ref a ∧ SqT K H1 a xs ∧ ∀ p, H1 p = none → Q (.ref p) (upd H1 p (.tup xs.reverse))
theorem pe_revT {e : Expr} {te : TE} {k : Nat} {p1 p2 p3 pos : Pos} (he : PE X e te) : PE X (.Subscript e (.Slice none none (some (.UnaryOp .USub (.Constant (.int 1) k p1) p2)) p3) pos) (tRevT X.K te) := by
  refine ⟨fun pins s σ H Q I h => ?_⟩
  refine Subscript_ (thn (he.run pins s σ H _ I h) fun v s1 ⟨x, H1, I1, r1, a, xs, ex, hx, q⟩ => ?_)
  subst ex
  cases r1
  have hst : PO X (some (.UnaryOp .USub (.Constant (.int 1) k p1) p2)) (tPart (tUn (rU fun i => .int (-i)) (tC (.int 1)))) := po_some (pe_un un_neg pe_int)
  refine wpAny_Slice (thn (po_none.run pins s1 σ H1 (fun o H2 => o = none ∧ H2 = H1) I1 ⟨rfl, rfl⟩) fun vl s2 ⟨l, H2, I2, pl, el, e2⟩ => ?_)
  cases el
  cases e2
  refine thn (po_none.run pins s2 σ H1 (fun o H3 => o = none ∧ H3 = H1) I2 ⟨rfl, rfl⟩) fun vu s3 ⟨u, H3, I3, pu, eu, e3⟩ => ?_
  cases eu
  cases e3
  refine thn (hst.run pins s3 σ H1 (fun o H4 => o = some (-1) ∧ H4 = H1) I3 ⟨1, rfl, -1, rfl, rfl, rfl⟩) fun vs s4 ⟨o, H4, I4, ps, eo, e4⟩ => ?_
  cases eo
  cases e4
  cases pl
  cases pu
  have I5 : Inv X pins σ H1 { s4 with heap := s4.heap.push { cls := .type "slice", data := .fields #[.none, .none, vs] } } := I4.kept (t' := s4.toks) fun b ob q => Heap.get?_push_of_some _ q
  obtain ⟨its, r, ht, hz⟩ := I5.tuple hx
  have hlen := r.length
  show wpAny (model X.prog X.w) X.A (subscriptTail e (.Slice none none (some (.UnaryOp .USub (.Constant (.int 1) k p1) p2)) p3) (.ref a) (.ref s4.heap.objs.size)) (EP X pins σ Q) X.xe { s4 with heap := s4.heap.push { cls := .type "slice", data := .fields #[.none, .none, vs] } }
  refine tail_any (ops := [.ref a, .ref s4.heap.objs.size]) ht.typeIs PyProof.Rows.slot_tuple_getitem.lookup ?_ (by with_unfolding_all rfl)
  refine getItem_tuple_back ht (Heap.IsSliceOf.new _ .none .none vs) ps ?_ (by rw [List.size_toArray]; omega)
  refine ⟨.ref _, _, I5.laid (t' := s4.toks) (o := .tup xs.reverse) (fun b ob q => Heap.get?_push_of_some _ q) (Nat.le_refl _) ?_, rfl, q _ (I5.hok.fresh (Nat.le_refl _))⟩
  exact ⟨by rw [List.length_reverse]; exact hz, _, r.reverse, IsTup.new _ _⟩
end
end MN
/-! the order of words: by length, then sign by sign -/
namespace MN
open PySem
def ahead (a b : Str) : Prop := a.length < b.length ∨ (a.length = b.length ∧ a.cps.toList < b.cps.toList)
instance (a b : Str) : Decidable (ahead a b) := by unfold ahead; infer_instance
theorem str_ext {a b : Str} (h : a.cps.toList = b.cps.toList) : a = b := PySem.W.str_of_cps h
theorem str_eq_iff {a b : Str} : a = b ↔ a.cps.toList = b.cps.toList := ⟨fun h => by rw [h], str_ext⟩
theorem ahead_irrefl (a : Str) : ¬ ahead a a := fun h => by
  rcases h with h | ⟨_, h⟩
  · omega
  · exact List.lt_irrefl _ h
theorem ahead_trans {a b c : Str} (h : ahead a b) (h' : ahead b c) : ahead a c := by
  rcases h with h | ⟨e, h⟩ <;> rcases h' with h' | ⟨e', h'⟩
  · exact .inl (by omega)
  · exact .inl (by omega)
  · exact .inl (by omega)
  · exact .inr ⟨by omega, List.lt_trans h h'⟩
theorem ahead_total (a b : Str) : ahead a b ∨ a = b ∨ ahead b a := by
  by_cases h1 : a.length < b.length
  · exact .inl (.inl h1)
  by_cases h2 : b.length < a.length
  · exact .inr (.inr (.inl h2))
  have e : a.length = b.length := by omega
  by_cases h3 : a.cps.toList < b.cps.toList
  · exact .inl (.inr ⟨e, h3⟩)
  by_cases h4 : b.cps.toList < a.cps.toList
  · exact .inr (.inr (.inr ⟨e.symm, h4⟩))
  exact .inr (.inl (str_ext (List.le_antisymm (List.not_lt.mp h4) (List.not_lt.mp h3))))
def leW (a b : Str) : Bool := !decide (ahead b a)
/-- each once, in the order in which they are met -/
def uniq (zs : List Str) : List Str := zs.foldl (fun acc z => if z ∈ acc then acc else acc ++ [z]) []
theorem uniq_spec (zs : List Str) : ∀ acc : List Str, acc.Nodup → (zs.foldl (fun acc z => if z ∈ acc then acc else acc ++ [z]) acc).Nodup ∧ ∀ x, x ∈ zs.foldl (fun acc z => if z ∈ acc then acc else acc ++ [z]) acc ↔ x ∈ acc ∨ x ∈ zs := by
  induction zs with
  | nil => intro acc h; exact ⟨h, fun x => by simp⟩
  | cons z zs ih =>
    intro acc h
    rw [List.foldl_cons]
    by_cases hz : z ∈ acc
    · rw [if_pos hz]
      obtain ⟨h1, h2⟩ := ih acc h
      refine ⟨h1, fun x => ?_⟩
      rw [h2 x, List.mem_cons]
      constructor
      · rintro (q | q)
        · exact .inl q
        · exact .inr (.inr q)
      · rintro (q | q | q)
        · exact .inl q
        · exact .inl (q ▸ hz)
        · exact .inr q
    · rw [if_neg hz]
      have hn : (acc ++ [z]).Nodup := List.nodup_append.mpr ⟨h, by simp, fun a ha b hb e => hz (by rw [List.mem_singleton] at hb; rw [← hb, ← e]; exact ha)⟩
      obtain ⟨h1, h2⟩ := ih (acc ++ [z]) hn
      refine ⟨h1, fun x => ?_⟩
      rw [h2 x, List.mem_append, List.mem_singleton, List.mem_cons]
      constructor
      · rintro ((q | q) | q)
        · exact .inl q
        · exact .inr (.inl q)
        · exact .inr (.inr q)
      · rintro (q | q | q)
        · exact .inl (.inl q)
        · exact .inl (.inr q)
        · exact .inr q
theorem uniq_nodup (zs : List Str) : (uniq zs).Nodup := (uniq_spec zs [] List.nodup_nil).1
theorem mem_uniq (zs : List Str) (x : Str) : x ∈ uniq zs ↔ x ∈ zs := by
  have h := (uniq_spec zs [] List.nodup_nil).2 x
  have e : x ∈ uniq zs ↔ x ∈ ([] : List Str) ∨ x ∈ zs := h
  simpa using e
def ord (zs : List Str) : List Str := (uniq zs).mergeSort leW
theorem mem_ord {zs : List Str} {x : Str} : x ∈ ord zs ↔ x ∈ zs := by
  unfold ord
  rw [List.mem_mergeSort, mem_uniq]
theorem ord_sorted (zs : List Str) : (ord zs).Pairwise ahead := by
  have h1 : (ord zs).Pairwise fun a b => leW a b = true := by
    refine List.pairwise_mergeSort (fun a b c h h' => ?_) (fun a b => ?_) _
    · simp only [leW, Bool.not_eq_true', decide_eq_false_iff_not] at *
      intro q
      rcases ahead_total b c with z | z | z
      · exact h (ahead_trans z q)
      · exact h (z ▸ q)
      · exact h' z
    · simp only [leW, Bool.or_eq_true, Bool.not_eq_true', decide_eq_false_iff_not]
      by_cases q : ahead b a
      · exact .inr fun q' => ahead_irrefl _ (ahead_trans q q')
      · exact .inl q
  have h2 : (ord zs).Nodup := (List.mergeSort_perm _ _).nodup_iff.mpr (uniq_nodup zs)
  have h2' : (ord zs).Pairwise fun a b => a ≠ b := h2
  refine List.Pairwise.imp₂ (fun a b h h' => ?_) h1 h2'
  simp only [leW, Bool.not_eq_true', decide_eq_false_iff_not] at h
  rcases ahead_total a b with z | z | z
  · exact z
  · exact absurd z h'
  · exact absurd z h
/-- only one list ascends and has these members -/
theorem sorted_one : ∀ {xs ys : List Str}, xs.Pairwise ahead → ys.Pairwise ahead → (∀ z, z ∈ xs ↔ z ∈ ys) → xs = ys
  | [], [], _, _, _ => rfl
  | [], y :: ys, _, _, h => absurd ((h y).mpr List.mem_cons_self) (by simp)
  | x :: xs, [], _, _, h => absurd ((h x).mp List.mem_cons_self) (by simp)
  | x :: xs, y :: ys, hx, hy, h => by
    rw [List.pairwise_cons] at hx hy
    have e : x = y := by
      rcases ahead_total x y with z | z | z
      · have := (h x).mp List.mem_cons_self
        rcases List.mem_cons.mp this with q | q
        · exact q
        · exact absurd (ahead_trans z (hy.1 x q)) (ahead_irrefl _)
      · exact z
      · have := (h y).mpr List.mem_cons_self
        rcases List.mem_cons.mp this with q | q
        · exact q.symm
        · exact absurd (ahead_trans z (hx.1 y q)) (ahead_irrefl _)
    subst e
    congr 1
    refine sorted_one hx.2 hy.2 fun z => ?_
    have hz := h z
    rw [List.mem_cons, List.mem_cons] at hz
    constructor
    · intro q
      rcases hz.mp (.inr q) with e | e
      · exact absurd (e ▸ hx.1 z q) (ahead_irrefl _)
      · exact e
    · intro q
      rcases hz.mpr (.inr q) with e | e
      · exact absurd (e ▸ hy.1 z q) (ahead_irrefl _)
      · exact e
theorem ord_eq {xs ys : List Str} (h : ∀ z, z ∈ xs ↔ z ∈ ys) : ord xs = ord ys := sorted_one (ord_sorted _) (ord_sorted _) fun z => by rw [mem_ord, mem_ord]; exact h z
theorem ord_of {xs : List Str} (h : xs.Pairwise ahead) : ord xs = xs := sorted_one (ord_sorted _) h fun z => mem_ord
theorem ord_ord (xs : List Str) : ord (ord xs) = ord xs := ord_of (ord_sorted xs)
theorem ord_reverse (xs : List Str) : ord xs.reverse = ord xs := ord_eq fun z => List.mem_reverse
theorem ord_length (zs : List Str) : (ord zs).length ≤ zs.length := by
  unfold ord
  rw [List.length_mergeSort]
  have h : ∀ (zs acc : List Str), (zs.foldl (fun acc z => if z ∈ acc then acc else acc ++ [z]) acc).length ≤ acc.length + zs.length := by
    intro zs
    induction zs with
    | nil => intro acc; simp
    | cons z zs ih =>
      intro acc
      rw [List.foldl_cons, List.length_cons]
      have := ih (if z ∈ acc then acc else acc ++ [z])
      split at this
      · rename_i q; rw [if_pos q]; omega
      · rename_i q; rw [if_neg q]; rw [List.length_append, List.length_singleton] at this; omega
  simpa [uniq] using h zs []
theorem dataLe_rank : PySem.W.dataLe false (fun z : Str => PyData.tuple [.int z.length, .str z]) = leW := by
  funext a b
  show (!PySem.W.dataLt (.tuple [.int b.length, .str b]) (.tuple [.int a.length, .str a])) = _
  rw [PySem.W.dataLt_pair (by simp [PySem.W.alike]) (by simp [PySem.W.alike]), PySem.W.dataLt_int, PySem.W.dataLt_str]
  simp only [PyData.eqv, leW, ahead, beq_iff_eq]
  congr 1
  by_cases h1 : (b.length : Int) = a.length
  · have e : b.length = a.length := by omega
    have nl : ¬ b.length < a.length := by omega
    rw [if_pos h1]
    by_cases h2 : b = a
    · subst h2
      rw [if_pos rfl]
      exact (decide_eq_false (fun q => ahead_irrefl b q)).symm
    · rw [if_neg h2]
      simp [e]
  · have e : b.length ≠ a.length := by omega
    rw [if_neg h1]
    simp only [e, false_and, or_false]
    congr 1
    exact propext ⟨fun q => by omega, fun q => by omega⟩
end MN
/-! the defs about words -/
namespace MN
open PySem PySem.Spec PyProof.Rows L2
theorem str_one {z : Str} (h : z.length = 1) : ∃ c, z = ⟨#[c]⟩ := by
  obtain ⟨⟨l⟩⟩ := z
  match l, h with
  | [c], _ => exact ⟨c, rfl⟩
/-- a value: a text, or one of a kind that is no text -/
def ValOk (K : PySem.W.Frag) (H : Hp) (v : V) : Prop := (∃ z : Str, v = .str z ∧ z.length ≤ 100000) ∨ ((∀ z, v ≠ .str z) ∧ IsX K H v "str" false)
theorem ValOk.str {K : PySem.W.Frag} {H : Hp} {z : Str} (h : z.length ≤ 100000) : ValOk K H (.str z) := .inl ⟨z, rfl, h⟩
def sgn (c : Nat) : Bool := decide (c ∈ ("abcde" : Str).cps.toList)
def isWordS (z : Str) : Bool := z.cps.toList.all sgn
def isWord : V → Bool
  | .str z => isWordS z
  | _ => false
def isSign : V → Bool
  | .str z => decide (z.length = 1) && isWordS z
  | _ => false
theorem isWord_no {v : V} (h : ∀ z, v ≠ .str z) : isWord v = false := by
  cases v with
  | str z => exact absurd rfl (h z)
  | _ => rfl
theorem isSign_no {v : V} (h : ∀ z, v ≠ .str z) : isSign v = false := by
  cases v with
  | str z => exact absurd rfl (h z)
  | _ => rfl
section
variable {P : Program} {w : World} {K : PySem.W.Frag} {mg : Str → Option Value} {base : Heap}
/-! ### is_sign -/
def spIsSign (K : PySem.W.Frag) : Sp := fun vs H Q _ => ∃ v, vs = [v] ∧ ValOk K H v ∧ Q (.bl (isSign v)) H
theorem sc_is_sign : FnScope ["value"] ["value"] (defScope (top 12)) := ⟨rfl, rfl, rfl, by decide +kernel, rfl, by decide +kernel, by decide +kernel⟩
theorem c_is_sign (A : At K mg "is_sign" (top 12)) (B : Blt mg) : Cal P w K mg base 1 "is_sign" (spIsSign K) := by
  refine cal_of A sc_is_sign (fun _ _ _ _ _ _ us hl => match us, hl with | [_], _ => rfl) (fun vs H Q E h => ?_) (fun f cdv A outer s H vs Q E hr h => ?_)
  · obtain ⟨v, rfl, _⟩ := h; rfl
  · obtain ⟨v, rfl, hv, hQ⟩ := h
    refine ⟨_, pss_one (ps_ret (pe_and (pe_callB call_isS (by rfl) B.isinstance (by decide +kernel) (pa_cons (pv 0) (pa_cons (pe_bltn (v := .ty "str") (by rfl) B.str (by decide +kernel) rfl) pa_nil)))
      (pe_and (pe_cmpR op_eq (pe_callB call_len_str (by rfl) B.len PySem.boot_len (pa_cons (pv 0) pa_nil)) pe_int (nomark _))
        (pe_one (pe_cmpR op_in_sign (pv 0) (pe_gl (by rfl) B.SIGNS) (by rfl)))))), ?_⟩
    rcases hv with ⟨z, rfl, hz⟩ | ⟨hn, hk⟩
    · refine ⟨_, rfl, .str z, "str", true, rfl, .str, true, rfl, iteT ?_⟩
      refine ⟨_, rfl, z, rfl, Nat.le_trans hz (by decide), rfl, _, rfl, ?_⟩
      by_cases h1 : z.length = 1
      · obtain ⟨c, rfl⟩ : ∃ c, z = ⟨#[c]⟩ := str_one h1
        rw [show decide (V.int ((⟨#[c]⟩ : Str).length : Int) = V.int 1) = true from rfl]
        refine iteT ⟨_, rfl, c, _, rfl, rfl, ?_⟩
        have e : isSign (.str ⟨#[c]⟩) = decide (c ∈ ("abcde" : Str).cps.toList) := by simp [isSign, isWordS, Str.length, sgn]
        rw [← e]; exact hQ
      · have e0 : decide (V.int (z.length : Int) = V.int 1) = false := decide_eq_false (fun q => h1 (by injection q with q; omega))
        rw [e0]
        have e : isSign (.str z) = false := by simp [isSign, h1]
        rw [e] at hQ
        exact iteF hQ
    · refine ⟨_, rfl, v, "str", false, rfl, hk, false, rfl, iteF ?_⟩
      rw [isSign_no hn] at hQ
      exact hQ
/-! ### is_word -/
def spIsWord (K : PySem.W.Frag) : Sp := fun vs H Q _ => ∃ v, vs = [v] ∧ ValOk K H v ∧ ∀ H', Same H H' → Q (.bl (isWord v)) H'
abbrev N_is_word : List Str := ["value", "sign"]
theorem sc_is_word : FnScope N_is_word ["value"] (defScope (top 13)) := ⟨rfl, rfl, rfl, by decide +kernel, rfl, by decide +kernel, by decide +kernel⟩
theorem c_is_word (A : At K mg "is_word" (top 13)) (B : Blt mg) : Cal P w K mg base 1 "is_word" (spIsWord K) := by
  refine cal_of A sc_is_word (fun _ _ _ _ _ _ us hl => match us, hl with | [_], _ => rfl) (fun vs H Q E h => ?_) (fun f cdv A outer s H vs Q E hr h => ?_)
  · obtain ⟨v, rfl, _⟩ := h; rfl
  · obtain ⟨v, rfl, hv, hQ⟩ := h
    refine ⟨_, (pss_one (ps_ret (pe_and (pe_callB call_isS (by rfl) B.isinstance (by decide +kernel) (pa_cons (pv 0) (pa_cons (pe_bltn (v := .ty "str") (by rfl) B.str (by decide +kernel) rfl) pa_nil)))
      (pe_one (pe_callB (cr_all rfl) (by rfl) B.all (by decide +kernel) (pa_cons (pe_lc (own := [("sign", 1)]) (g := gName 1) (tt := tYes) (by rfl) sc_is_word.nd (pi_str (pv 0))
        (blkOk_by (own := [("sign", 1)]) (N := N_is_word) (sc := defScope (top 13)) (by decide +kernel)) (fun _ _ _ _ _ => (pg_name (i := 1) sc_is_word.nd rfl (Or.inl rfl))) (fun _ _ _ _ _ => pts_nil)
        (fun _ _ _ _ _ => (pe_cmpR op_in_sign (pv 1) (pe_gl (by rfl) B.SIGNS) (by rfl)))) pa_nil)))))), ?_⟩
    rcases hv with ⟨z, rfl, hz⟩ | ⟨hn, hk⟩
    · refine ⟨_, rfl, .str z, "str", true, rfl, .str, true, rfl, iteT ?_⟩
      refine ⟨_, rfl, z, rfl, fun D hD => lc_str (by omega) (fun _ => true) (fun x => .bl (isWord x)) (fun x _ => rfl) (fun x _ acc Q q => q) (fun x hx _ acc Q q => ?_) ?_⟩
      · obtain ⟨c, hc, rfl⟩ := List.mem_map.mp hx
        refine ⟨_, rfl, c, _, rfl, rfl, ?_⟩
        have e : isWord (.str ⟨#[c]⟩) = decide (c ∈ ("abcde" : Str).cps.toList) := by simp [isWord, isWordS, sgn]
        rw [← e]; exact q
      · refine ⟨D, (signsOf z).map isWord, rfl, .inl (.inl ?_), ?_⟩
        · rw [filter_all, List.map_map]; exact upd_same
        · have e : ((signsOf z).map isWord).all id = isWordS z := by
            simp [signsOf, isWordS, isWord, List.all_map, Function.comp_def]
          rw [e]
          exact hQ _ (same_new hD)
    · refine ⟨_, rfl, v, "str", false, rfl, hk, false, rfl, iteF ?_⟩
      rw [isWord_no hn] at hQ
      exact hQ _ (Same.refl _)
end
end MN
/-! the defs about numbers -/
namespace MN
open PySem PySem.Spec PyProof.Rows L2
def big : Int := 10 ^ 60
def isInt (n : Int) : Bool := decide (-big < n) && decide (n < big)
theorem isInt_of {n : Int} (h1 : -1000000 ≤ n) (h2 : n ≤ 1000000) : isInt n = true := by
  have : (1000000 : Int) < big := by decide +kernel
  unfold isInt
  rw [decide_eq_true (by omega), decide_eq_true (by omega)]
  rfl
section
variable {P : Program} {w : World} {K : PySem.W.Frag} {mg : Str → Option Value} {base : Heap}
def spIsInt (K : PySem.W.Frag) : Sp := fun vs H Q _ => ∃ v, vs = [v] ∧ ((∃ n, v = .int n ∧ Q (.bl (isInt n)) H) ∨ (∃ b, v = .bl b ∧ Q (.bl false) H) ∨ (IsX K H v "int" false ∧ Q (.bl false) H))
theorem sc_is_integer : FnScope ["value"] ["value"] (defScope (top 11)) := ⟨rfl, rfl, rfl, by decide +kernel, rfl, by decide +kernel, by decide +kernel⟩
theorem c_is_integer (A : At K mg "is_integer" (top 11)) (B : Blt mg) (G : GlC mg "GREATEST" (.int big)) : Cal P w K mg base 1 "is_integer" (spIsInt K) := by
  refine cal_of A sc_is_integer (fun _ _ _ _ _ _ us hl => match us, hl with | [_], _ => rfl) (fun vs H Q E h => ?_) (fun f cdv A outer s H vs Q E hr h => ?_)
  · obtain ⟨v, rfl, _⟩ := h; rfl
  · obtain ⟨v, rfl, hQ⟩ := h
    refine ⟨_, (pss_one (ps_ret (pe_and (pe_callB call_isS (by rfl) B.isinstance (by decide +kernel) (pa_cons (pv 0) (pa_cons (pe_bltn (v := .ty "int") (by rfl) B.int (by decide +kernel) rfl) pa_nil))) (pe_and (pe_not (pe_callB call_isS (by rfl) B.isinstance (by decide +kernel) (pa_cons (pv 0) (pa_cons (pe_bltn (v := .ty "bool") (by rfl) B.bool (by decide +kernel) rfl) pa_nil)))) (pe_one (pe_chain op_lt op_lt (pe_un un_neg (pe_gl (by rfl) G)) (pv 0) (pe_gl (by rfl) G))))))), ?_⟩
    rcases hQ with ⟨n, rfl, hQ⟩ | ⟨b, rfl, hQ⟩ | ⟨hi, hQ⟩
    · refine ⟨_, rfl, _, _, true, rfl, .ty (.base (.int n)) (by decide +kernel), _, rfl, iteT ?_⟩
      refine ⟨_, rfl, _, _, false, rfl, .ty (.base (.int n)) (by decide +kernel), _, rfl, _, rfl, iteT ?_⟩
      refine ⟨_, rfl, _, rfl, _, _, rfl, rfl, _, rfl, ?_⟩
      by_cases h1 : -big < n
      · rw [decide_eq_true h1]
        refine iteT ⟨_, _, rfl, rfl, ?_⟩
        unfold isInt at hQ
        rw [decide_eq_true h1] at hQ
        exact hQ
      · rw [decide_eq_false h1]
        unfold isInt at hQ
        rw [decide_eq_false h1] at hQ
        exact iteF hQ
    · refine ⟨_, rfl, _, _, true, rfl, .ty (.base (.bl b)) (by decide +kernel), _, rfl, iteT ?_⟩
      exact ⟨_, rfl, _, _, true, rfl, .ty (.base (.bl b)) (by decide +kernel), _, rfl, _, rfl, iteF hQ⟩
    · exact ⟨_, rfl, _, _, false, rfl, hi, _, rfl, iteF hQ⟩
end
end MN
/-! is_price -/
namespace MN
open PySem PySem.Spec PyProof.Rows L2
section
variable {P : Program} {w : World} {K : PySem.W.Frag} {mg : Str → Option Value} {base : Heap}
/-- prices: whole numbers -/
def spIsPrice (K : PySem.W.Frag) : Sp := fun vs H Q _ => ∃ v m, vs = [v, .int m] ∧ ((∃ n, v = .int n ∧ Q (.bl (isInt n && (decide (1 ≤ n) && decide (n ≤ m)))) H) ∨ (∃ b, v = .bl b ∧ Q (.bl false) H) ∨ (IsX K H v "int" false ∧ Q (.bl false) H))
theorem sc_is_price : FnScope ["value", "most"] ["value", "most"] (defScope (top 18)) := ⟨rfl, rfl, rfl, by decide +kernel, rfl, by decide +kernel, by decide +kernel⟩
theorem c_is_price (A : At K mg "is_price" (top 18)) (c_is_integer : Cal P w K mg base 1 "is_integer" (spIsInt K)) : Cal P w K mg base 2 "is_price" (spIsPrice K) := by
  refine cal_of A sc_is_price (fun _ _ _ _ _ _ us hl => match us, hl with | [_, _], _ => rfl) (fun vs H Q E h => ?_) (fun f cdv A outer s H vs Q E hr h => ?_)
  · obtain ⟨v, m, rfl, _⟩ := h; rfl
  · obtain ⟨v, m, rfl, hQ⟩ := h
    refine ⟨_, (pss_one (ps_ret (pe_and (pe_c c_is_integer hr (by decide) (by rfl) (pa_cons (pv 0) pa_nil)) (pe_one (pe_chain op_le op_le pe_int (pv 0) (pv 1)))))), ?_⟩
    refine ⟨_, rfl, _, rfl, ?_⟩
    rcases hQ with ⟨n, rfl, hQ⟩ | ⟨b, rfl, hQ⟩ | ⟨hi, hQ⟩
    · refine .inl ⟨n, rfl, _, rfl, ?_⟩
      cases hn : isInt n with
      | false => rw [hn] at hQ; exact iteF hQ
      | true =>
        rw [hn] at hQ
        refine iteT ⟨_, rfl, _, _, rfl, rfl, _, rfl, ?_⟩
        by_cases h1 : 1 ≤ n
        · rw [decide_eq_true h1] at hQ ⊢
          exact iteT ⟨_, rfl, _, _, rfl, rfl, hQ⟩
        · rw [decide_eq_false h1] at hQ ⊢
          exact iteF hQ
    · exact .inr (.inl ⟨b, rfl, _, rfl, iteF hQ⟩)
    · exact .inr (.inr ⟨hi, _, rfl, iteF hQ⟩)
end
end MN
/-! dict comprehensions with one and with two clauses, keys of any kind that a tracked dict knows -/
namespace MN
open PySem PySem.Spec PyProof.Rows L2
theorem d_setP {X : Cx} {pins : List (Addr × Obj)} {σ : L2.St} {H H' : Hp} {s : Shared} {E : Value → Shared → Prop} {D : Addr} {y v : V} {u r : Value} {Q : Unit → Shared → Prop} (hu : X.A.units + 1 < cLine) (I : Inv X pins σ H s) (g : DPut H D y v H')
    (ry : RelV y u) (rv : RelV v r) (h : ∀ s', Inv X pins σ H' s' → Q () s') : wpAny (model X.prog X.w) X.A (dictSet D u r) Q E s := by
  rcases g with ⟨kvs, k, e, ey, l, eH⟩ | ⟨kvs, k, b, e, ey, eb, l, eH⟩
  · subst ey eH
    exact d_dictSet I e l ry rv h
  · subst ey eH
    cases (show u = Value.ref b from ry)
    obtain ⟨z, hd, xs, rel, dd⟩ := dt_of I.hok e
    have hz : xs.length ≤ sizeLine := by rw [← Paired.length rel]; exact z
    have hl : (putK kvs k v).length ≤ sizeLine := by have := length_putK kvs k v; omega
    refine wpAny_dictSet_heap (hsz := hz) (show X.A.units < cLine by omega) (key_of I.hok eb) dd fun h' dd' hs => h _ ?_
    obtain ⟨q, es, ep, hq, h2, h3, h4, _, h5⟩ := dd'
    refine d_write I (by rw [e]; exact True.intro) hs ⟨q, hq⟩ ⟨hl, hd, _, (rel.put k eb rv).keeps fun c ys ec => ?_, q, es, ep, hq, h2, h3, h4, h5⟩
    rw [upd_ne (ne_of ec e (fun z => nomatch z))]
    exact ec
theorem turn2_out (kx vx t0 i0 t1 i1 : Expr) (ifs0 ifs1 : List Expr) (scope : Scope) (pos : Pos) (it acc : Value) (env : Env) :
    compTurn (.DictComp kx vx [⟨t0, i0, ifs0, 0⟩, ⟨t1, i1, ifs1, 0⟩] scope pos) 0 it acc env = (do
      standAt i0.pos
      match ← pyNext it with
      | none => pure (.done .next)
      | some v =>
        letOwnedTupleGo t0 it v
        assign t0 env v
        let mut ok := true
        for c in ifs0 do
          if ok then ok ← isTrue c env (eval c env)
        if ok then
          let x ← eval i1 env
          standAt i1.pos
          let x ← foldedSetIterable i1 env x
          let _ ← runOwn (.compStart (.DictComp kx vx [⟨t0, i0, ifs0, 0⟩, ⟨t1, i1, ifs1, 0⟩] scope pos) 1 (← holding [x] (pyIter x)) acc env) env
        again (.compLoop (.DictComp kx vx [⟨t0, i0, ifs0, 0⟩, ⟨t1, i1, ifs1, 0⟩] scope pos) 0 it acc env)) := by rfl
theorem turn2_in (kx vx t0 i0 t1 i1 : Expr) (ifs0 ifs1 : List Expr) (scope : Scope) (pos : Pos) (it : Value) (D : Addr) (env : Env) :
    compTurn (.DictComp kx vx [⟨t0, i0, ifs0, 0⟩, ⟨t1, i1, ifs1, 0⟩] scope pos) 1 it (.ref D) env = (do
      standAt i1.pos
      match ← pyNext it with
      | none => pure (.done .next)
      | some v =>
        letOwnedTupleGo t1 it v
        assign t1 env v
        let mut ok := true
        for c in ifs1 do
          if ok then ok ← isTrue c env (eval c env)
        if ok then
          (do
            let kv ← eval kx env
            let vv ← holding [kv] (eval vx env)
            standAt { kx.pos with endLine := vx.pos.endLine, endCol := vx.pos.endCol }
            holding [kv, vv] (dictSet D kv vv))
        again (.compLoop (.DictComp kx vx [⟨t0, i0, ifs0, 0⟩, ⟨t1, i1, ifs1, 0⟩] scope pos) 1 it (.ref D) env)) := by rfl
section
variable {prog : Program} {w : World} {A : Around} {R : Result → Shared → Prop} {s : Shared} {kx vx t0 i0 t1 i1 : Expr} {ifs0 ifs1 : List Expr} {scope : Scope} {pos : Pos} {it acc : Value} {D : Addr} {env : Env}
theorem loop2_out (hs : ∀ x, foldedSetIterable i1 env x = pure x) (I : Nat → Shared → Prop)
    (turn : ∀ n s, I n s → wpAny (model prog w) A (pyNext it) (fun r s₁ => match r with
      | none => R (.ok .next) s₁
      | some v => wpAny (model prog w) A (letOwnedTupleGo t0 it v) (fun _ s₂ => wpAny (model prog w) A (assign t0 env v) (fun _ s₃ => wpAny (model prog w) A (forIn ifs0 true fun c r => if r = true then do let ok ← isTrue c env (eval c env); pure (ForInStep.yield ok) else pure (ForInStep.yield r)) (fun ok s₄ =>
          if ok = true then wpAny (model prog w) A (eval i1 env) (fun x s₅ => wpAny (model prog w) A (pyIter x) (fun j s₆ =>
            codeAny (model prog w) A (.compStart (.DictComp kx vx [⟨t0, i0, ifs0, 0⟩, ⟨t1, i1, ifs1, 0⟩] scope pos) 1 j acc env) (fun r s' => match r with
              | .ok _ => ∃ m, m < n ∧ I m s'
              | .error _ => False) s₆) (notedBy (model prog w) A env fun e s' => R (.error e) s') s₅) (notedBy (model prog w) A env fun e s' => R (.error e) s') s₄
          else ∃ m, m < n ∧ I m s₄) (notedBy (model prog w) A env fun e s' => R (.error e) s') s₃) (notedBy (model prog w) A env fun e s' => R (.error e) s') s₂) (notedBy (model prog w) A env fun e s' => R (.error e) s') s₁) (notedBy (model prog w) A env fun e s' => R (.error e) s') s)
    (n : Nat) (h : I n s) : codeAny (model prog w) A (.compLoop (.DictComp kx vx [⟨t0, i0, ifs0, 0⟩, ⟨t1, i1, ifs1, 0⟩] scope pos) 0 it acc env) R s := by
  refine codeAny_loop rfl I (fun n s hI => ?_) n h
  show wpAny _ A ((compTurn (.DictComp kx vx [⟨t0, i0, ifs0, 0⟩, ⟨t1, i1, ifs1, 0⟩] scope pos) 0 it acc env).onRaise (fun x => do noteFrame x env; theTreesLotGoes x)) _ _ s
  refine wpAny_noted ?_
  rw [turn2_out]
  refine wpAny_bind (wpAny_standAt (wpAny_bind (wpAny_mono (turn n s hI) (fun r s₁ h₁ => ?_) fun _ _ z => z)))
  match r, h₁ with
  | none, h₁ => exact wpAny_pure h₁
  | some v, h₁ =>
    refine wpAny_bind (wpAny_mono h₁ (fun _ s₂ h₂ => wpAny_bind (wpAny_mono h₂ (fun _ s₃ h₃ => wpAny_bind (wpAny_mono h₃ (fun ok s₄ h₄ => ?_) fun _ _ z => z)) fun _ _ z => z)) fun _ _ z => z)
    cases ok with
    | false => exact wpAny_pure ⟨rfl, h₄⟩
    | true =>
      refine wpAny_bind (wpAny_mono h₄ (fun x s₅ h₅ => ?_) fun _ _ z => z)
      refine wpAny_bind (wpAny_standAt (wpAny_bind (wpAny_of_eq (hs x) (wpAny_bind (wpAny_holding (wpAny_mono h₅ (fun j s₆ h₆ => ?_) fun _ _ z => z))))))
      refine wpAny_bind (wpAny_runOwn ?_)
      rw [Around.mark_none]
      refine codeAny_mono h₆ fun r s' hr => ?_
      match r, hr with
      | .ok f, hr =>
        first
          | exact wpAny_pure ⟨rfl, hr⟩
          | exact wpAny_bind (wpAny_pure (wpAny_pure ⟨rfl, hr⟩))
      | .error e, hr => exact hr.elim
theorem loop2_in (I : Nat → Shared → Prop)
    (turn : ∀ n s, I n s → wpAny (model prog w) A (pyNext it) (fun r s₁ => match r with
      | none => R (.ok .next) s₁
      | some v => wpAny (model prog w) A (letOwnedTupleGo t1 it v) (fun _ s₂ => wpAny (model prog w) A (assign t1 env v) (fun _ s₃ => wpAny (model prog w) A (forIn ifs1 true fun c r => if r = true then do let ok ← isTrue c env (eval c env); pure (ForInStep.yield ok) else pure (ForInStep.yield r)) (fun ok s₄ =>
          if ok = true then wpAny (model prog w) A (eval kx env) (fun kv s₅ => wpAny (model prog w) A (eval vx env) (fun vv s₆ => wpAny (model prog w) A (dictSet D kv vv) (fun _ s₇ => ∃ m, m < n ∧ I m s₇) (notedBy (model prog w) A env fun e s' => R (.error e) s') s₆) (notedBy (model prog w) A env fun e s' => R (.error e) s') s₅) (notedBy (model prog w) A env fun e s' => R (.error e) s') s₄
          else ∃ m, m < n ∧ I m s₄) (notedBy (model prog w) A env fun e s' => R (.error e) s') s₃) (notedBy (model prog w) A env fun e s' => R (.error e) s') s₂) (notedBy (model prog w) A env fun e s' => R (.error e) s') s₁) (notedBy (model prog w) A env fun e s' => R (.error e) s') s)
    (n : Nat) (h : I n s) : codeAny (model prog w) A (.compLoop (.DictComp kx vx [⟨t0, i0, ifs0, 0⟩, ⟨t1, i1, ifs1, 0⟩] scope pos) 1 it (.ref D) env) R s := by
  refine codeAny_loop rfl I (fun n s hI => ?_) n h
  show wpAny _ A ((compTurn (.DictComp kx vx [⟨t0, i0, ifs0, 0⟩, ⟨t1, i1, ifs1, 0⟩] scope pos) 1 it (.ref D) env).onRaise (fun x => do noteFrame x env; theTreesLotGoes x)) _ _ s
  refine wpAny_noted ?_
  rw [turn2_in]
  refine wpAny_bind (wpAny_standAt (wpAny_bind (wpAny_mono (turn n s hI) (fun r s₁ h₁ => ?_) fun _ _ z => z)))
  match r, h₁ with
  | none, h₁ => exact wpAny_pure h₁
  | some v, h₁ =>
    refine wpAny_bind (wpAny_mono h₁ (fun _ s₂ h₂ => wpAny_bind (wpAny_mono h₂ (fun _ s₃ h₃ => wpAny_bind (wpAny_mono h₃ (fun ok s₄ h₄ => ?_) fun _ _ z => z)) fun _ _ z => z)) fun _ _ z => z)
    cases ok with
    | false => exact wpAny_pure ⟨rfl, h₄⟩
    | true =>
      exact wpAny_bind (wpAny_bind (wpAny_mono h₄ (fun kv s₅ h₅ => wpAny_bind (wpAny_holding (wpAny_mono h₅ (fun vv s₆ h₆ => wpAny_bind (wpAny_standAt (wpAny_holding (wpAny_mono h₆ (fun _ s₇ h₇ => wpAny_pure ⟨rfl, h₇⟩) fun _ _ z => z)))) fun _ _ z => z))) fun _ _ z => z))
theorem start2 (h0 : codeAny (model prog w) A (.compLoop (.DictComp kx vx [⟨t0, i0, ifs0, 0⟩, ⟨t1, i1, ifs1, 0⟩] scope pos) 1 it acc env) R s)
    (h : wpAny (model prog w) A (pyIter it) (fun j s' => codeAny (model prog w) A (.compLoop (.DictComp kx vx [⟨t0, i0, ifs0, 0⟩, ⟨t1, i1, ifs1, 0⟩] scope pos) 1 j acc env) R s') (notedBy (model prog w) A env fun x s' => R (.error x) s') s) :
    codeAny (model prog w) A (.compStart (.DictComp kx vx [⟨t0, i0, ifs0, 0⟩, ⟨t1, i1, ifs1, 0⟩] scope pos) 1 it acc env) R s := by
  refine codeAny_of_tree ?_
  show wpAny _ _ ((compStart (.DictComp kx vx [⟨t0, i0, ifs0, 0⟩, ⟨t1, i1, ifs1, 0⟩] scope pos) 1 it acc env).onRaise (fun x => do noteFrame x env; standAt theWindowsPlace)) _ _ s
  refine wpAny_notedAt ?_
  unfold compStart
  show wpAny _ _ (ask >>= _) _ _ s
  refine wpAny_bind (wpAny_askSetting (wpAny_ite ?_))
  split
  · first
      | exact wpAny_bind (wpAny_pure (wpAny_pure (And.intro rfl h0)))
      | exact wpAny_pure (And.intro rfl h0)
  · first
      | exact wpAny_bind (wpAny_rule (wpAny_bind (wpAny_standAt (wpAny_bind (wpAny_mono h (fun j s' z => wpAny_pure (And.intro rfl z)) fun _ _ z => z)))))
      | (refine wpAny_bind (wpAny_rule ?_); show wpAny _ _ (standAt i1.pos >>= _) _ _ s; exact wpAny_bind (wpAny_standAt (wpAny_bind (wpAny_mono h (fun j s' z => wpAny_pure (And.intro rfl z)) fun _ _ z => z))))
end
section
variable {X : Cx}
def tDp1 (o0 : HO) (wi : TI) (g : TG) (tt : TT) (tk tv : TE) (vs : List Nat) : TE := fun σ H Q => wi σ H fun J H1 => ∀ D, H1 D = none → ∃ W : Nat → Nat → Hp → Prop, (∃ m, W 0 m (upd H1 D o0)) ∧ ∀ i m H, W i m H →
  (J.stop i H ∧ Q (.ref D) H) ∨ (J.go i H ∧ ∃ Nx : Hp → Prop, (∀ H', Nx H' → ∃ m', m' < m ∧ W (i + 1) m' H') ∧ ∀ x H', J.yld i H x H' → g x (wipe σ vs) H' fun σ2 H2 => wipe σ2 vs = wipe σ vs ∧ tt σ2 H2 fun b H3 =>
    if b = true then tk σ2 H3 fun y H4 => tv σ2 H4 fun z H5 => ∃ H6, DPut H5 D y z H6 ∧ Nx H6 else Nx H3)
theorem dp1_core {pins : List (Addr × Obj)} {s : Shared} {σ : L2.St} {H : Hp} {Q : VK} {use : Option (Value → Sem Unit)} {Qf : Value → Shared → Prop} {pos' : Pos} {kx vx tg iter : Expr} {ifs : List Expr} {scope : Scope} {own : List (Str × Nat)} {pos : Pos} {o0 : HO} {wi : TI} {g : TG} {tt : TT} {tk tv : TE} (hc : X.calm = true) (hu : X.A.units + 1 < cLine) (hN : X.N.Nodup) (I : Inv X pins σ H s) (hi : PI X tg iter wi) (ok : BlkOk X.N X.env.scope scope own)
    (hg : ∀ (s : Shared) (H : Hp) (C : Addr) (cl : List (Str × Addr)) (fp : List Addr), PG (X.blk s H scope (compEnvC scope cl C X.env) fp) tg g) (ht : ∀ (s : Shared) (H : Hp) (C : Addr) (cl : List (Str × Addr)) (fp : List Addr), PTs (X.blk s H scope (compEnvC scope cl C X.env) fp) ifs tt)
    (hk : ∀ (s : Shared) (H : Hp) (C : Addr) (cl : List (Str × Addr)) (fp : List Addr), PE (X.blk s H scope (compEnvC scope cl C X.env) fp) kx tk) (he : ∀ (s : Shared) (H : Hp) (C : Addr) (cl : List (Str × Addr)) (fp : List Addr), PE (X.blk s H scope (compEnvC scope cl C X.env) fp) vx tv)
    (ho : o0 = .dK [] ∨ o0 = .dT []) (hs : ∀ x, foldedSetIterable iter X.env x = pure x)
    (h : tDp1 o0 wi g tt tk tv (own.map (·.2)) σ H Q)
    (hRR : ∀ D C s' m H', Inv X pins σ H' s' → Q (.ref D) H' → s'.heap.Ns C m → FpOk X pins H' C → compPost (model X.prog X.w) X.A X.xe use Qf (.ref D) C (.ok .next) s') :
    wpAny (model X.prog X.w) X.A (comprehension (.DictComp kx vx [⟨tg, iter, ifs, 0⟩] scope pos) scope X.env pos' newDict false (eval iter X.env) use) Qf X.xe s := by
  have hfree : ∀ y ∈ scope.names, y.2 = .free → ∃ c, X.env.cells.lookup y.1 = some c := fun y hy e => I.ok.has _ (ok.free y hy e)
  refine wpAny_comprehension_free (use := use) rfl hs (closure_ok hfree) ok.kind (fun y hy e => by rw [ok.uniq y hy, e]) (thn (hi.run pins s σ H _ I h) fun xv s1 hx => thn hx fun itv s2 h2 => ?_)
  obtain ⟨it, fp, tn, J, H2, e, I2, T, st2, f2, q⟩ := h2
  subst e
  refine wpAny_newObj_type (newEnv_comp ?_)
  generalize hD : s2.heap.objs.size = D
  obtain ⟨W, ⟨m0, w0⟩, turn⟩ := q D (I2.hok.fresh (Nat.le_of_eq hD))
  generalize hs3 : ({ s2 with heap := s2.heap.push { cls := .type "dict", data := .dict #[] } } : Shared) = s3
  have h3 : s3.heap = s2.heap.push { cls := .type "dict", data := .dict #[] } := by rw [← hs3]
  have I3 : Inv X pins σ (upd H2 D o0) s3 := by
    rw [← hs3]
    refine I2.laid (t' := s2.toks) (fun b o e => Heap.get?_push_of_some _ e) (Nat.le_of_eq hD) ?_
    rw [← hD]
    rcases ho with z | z
    · rw [z]; exact dk_empty s2.heap I2.big
    · rw [z]; exact dt_empty s2.heap I2.big
  have f3 : ∀ b ∈ fp, FpOk X pins (upd H2 D o0) b ∧ b < s3.heap.objs.size := fun b hb => by
    obtain ⟨o, e, _⟩ := T.obj _ _ st2 b hb
    have hlt := Heap.lt_size e
    refine ⟨⟨?_, (f2 b hb).2⟩, by rw [h3, Heap.size_push]; exact Nat.lt_succ_of_lt hlt⟩
    rw [upd_ne (by rw [← hD]; exact Nat.ne_of_lt hlt)]
    exact (f2 b hb).1
  have st3 : tn 0 s3.heap := T.keep _ _ _ st2 fun b _ o e => by rw [h3]; exact Heap.get?_push_of_some _ e
  generalize hH3 : upd H2 D o0 = H3 at I3 f3 w0
  have I4 := block_start I3 ok hN f3
  have pg := hg s3 H3 s3.heap.objs.size (cellsFrom (s3.heap.objs.size + 1) scope.names (cloFrom X.env.cells scope.names [])) fp
  have pt := ht s3 H3 s3.heap.objs.size (cellsFrom (s3.heap.objs.size + 1) scope.names (cloFrom X.env.cells scope.names [])) fp
  have pk := hk s3 H3 s3.heap.objs.size (cellsFrom (s3.heap.objs.size + 1) scope.names (cloFrom X.env.cells scope.names [])) fp
  have pe := he s3 H3 s3.heap.objs.size (cellsFrom (s3.heap.objs.size + 1) scope.names (cloFrom X.env.cells scope.names [])) fp
  have nfp : ∀ b ∈ fp, H3 b = none := fun b hb => (f3 b hb).1.1
  show codeAny _ _ (.compStart (.DictComp kx vx [⟨tg, iter, ifs, 0⟩] scope pos) 0 (.ref it) (.ref D) (compEnvC scope (cellsFrom (s3.heap.objs.size + 1) scope.names (cloFrom X.env.cells scope.names [])) s3.heap.objs.size X.env)) _ { s3 with heap := pushCells (s3.heap.push { cls := .type "dict", data := .dict #[] }) scope.names }
  generalize hce : compEnvC scope (cellsFrom (s3.heap.objs.size + 1) scope.names (cloFrom X.env.cells scope.names [])) s3.heap.objs.size X.env = ce at I4 pg pt pk pe ⊢
  have cL : ce.locals = s3.heap.objs.size := by subst hce; rfl
  generalize hs4 : ({ s3 with heap := pushCells (s3.heap.push { cls := .type "dict", data := .dict #[] }) scope.names } : Shared) = s4 at I4 ⊢
  have st4 : tn 0 s4.heap := T.keep _ _ _ st3 fun b _ o e => by rw [← hs4]; exact pushCells_keeps _ _ _ _ (Heap.get?_push_of_some _ e)
  have stat : ∀ {σ' : L2.St} {H' : Hp} {s' : Shared}, Inv (X.blk s3 H3 scope ce fp) [] σ' H' s' → (∀ b ∈ fp, H' b = none) → ∀ b ∈ fp, FpOk (X.blk s3 H3 scope ce fp) [] H' b := fun {σ' H' s'} I' hn b hb =>
    ⟨hn b hb, (I'.ok.exf b hb).1, I'.ok.exfs b hb, .inl hb, fun x c e => (I'.ok.exf b hb).2 x c e, fun p hp => nomatch (show p ∈ ([] : List (Addr × Obj)) from hp)⟩
  have loop : codeAny (model X.prog X.w) X.A (.compLoop (.DictComp kx vx [⟨tg, iter, ifs, 0⟩] scope pos) 0 (.ref it) (.ref D) ce) (compPost (model X.prog X.w) X.A X.xe use Qf (.ref D) s3.heap.objs.size) s4 := by
    refine compLoop_anyD (fun n s' => ∃ i H', Inv (X.blk s3 H3 scope ce fp) [] (wipe σ (own.map (·.2))) H' s' ∧ tn i s'.heap ∧ (∀ b ∈ fp, H' b = none) ∧ W i n H') ?_ m0 ⟨0, H3, I4, st4, nfp, w0⟩
    rintro n s5 ⟨i, H5, I5, st5, n5, w5⟩
    rcases turn i n H5 w5 with ⟨stop, qq⟩ | ⟨go, Nx, hNx, step⟩
    · refine thnF (T.done (X.blk s3 H3 scope ce fp) rfl rfl rfl hc i [] s5 _ H5 (fun _ _ => False) I5 (stat I5 n5) st5 stop) fun r s6 ⟨hr, I6⟩ => ?_
      subst hr
      have I7 : Inv X pins σ H5 s6 := I3.call' (ch := fp) I6.os I6.base I6.hok I6.bare fun b hb => ⟨(f3 b hb).1.2.2.2.1, (f3 b hb).1.2.1, (f3 b hb).1.2.2.2.2.1, (f3 b hb).1.2.2.2.2.2⟩
      have nC : H5 s3.heap.objs.size = none := by
        have z : H5 ce.locals = none := I6.free
        rw [cL] at z
        exact z
      obtain ⟨m, hn, _⟩ := I6.loc
      have hn : s6.heap.Ns ce.locals m := hn
      rw [cL] at hn
      exact hRR D s3.heap.objs.size s6 m H5 I7 qq hn (I3.fpOk (Nat.le_refl _) nC)
    · refine thnF (T.item (X.blk s3 H3 scope ce fp) rfl rfl rfl hc i [] s5 _ H5 (fun _ _ => False) I5 (stat I5 n5) st5 go) fun r s6 ⟨u, hr, h6⟩ => ?_
      subst hr
      refine thnF h6 fun _ s7 ⟨x, H7, I7, r7, y7, st7, n7⟩ => ?_
      have I7' := I7.pinned (stat I7 n7) (T.obj _ _ st7)
      refine thnF (pg.run _ s7 _ H7 x u _ I7' r7 (step x H7 y7)) fun _ s8 ⟨σ8, H8, I8, hw8, q8⟩ => ?_
      refine thnF (pt.run _ s8 σ8 H8 _ I8 q8) fun b s9 ⟨H9, I9, q9⟩ => ?_
      have fin : ∀ {σ9 : L2.St} {s' : Shared} {H' : Hp}, Inv (X.blk s3 H3 scope ce fp) ([] ++ pinsAt fp s7.heap) σ9 H' s' → (wipe σ (own.map (·.2))).length = σ9.length → (∀ (j : Nat) v, (wipe σ (own.map (·.2)))[j]? = some (some v) → σ9[j]? = some (some v)) → Nx H' →
          ∃ m, m < n ∧ ∃ i H', Inv (X.blk s3 H3 scope ce fp) [] (wipe σ (own.map (·.2))) H' s' ∧ tn i s'.heap ∧ (∀ b ∈ fp, H' b = none) ∧ W i m H' := fun {σ9 s' H'} I' hl hk nx => by
        obtain ⟨m', hm, w'⟩ := hNx H' nx
        have pin' : ∀ b ∈ fp, ∀ o, s7.heap.get? b = some o → s'.heap.get? b = some o ∧ H' b = none := fun b hb o e => by
          have z := I'.pin (b, o) (List.mem_append_right _ (List.mem_append_right _ (mem_pinsAt hb e)))
          exact ⟨z.1, z.2.1⟩
        refine ⟨m', hm, i + 1, H', (I'.unpinned (pins := [])).weak hl hk, T.keep _ _ _ st7 fun b hb o e => (pin' b hb o e).1, fun b hb => ?_, w'⟩
        obtain ⟨o, e, _⟩ := T.obj _ _ st7 b hb
        exact (pin' b hb o e).2
      have hl8 : (wipe σ (own.map (·.2))).length = σ8.length := by rw [← hw8, wipe_length]
      have hk8 : ∀ (j : Nat) v, (wipe σ (own.map (·.2)))[j]? = some (some v) → σ8[j]? = some (some v) := fun j v e => by
        rw [← hw8] at e
        exact (wipe_some e).1
      cases b with
      | false =>
        simp only [Bool.false_eq_true, if_false] at q9 ⊢
        exact fin I9 hl8 hk8 q9
      | true =>
        simp only [if_true] at q9 ⊢
        refine thnF (pk.run _ s9 σ8 H9 _ I9 q9) fun z s10 ⟨yk, H10, I10, r10, q10⟩ => ?_
        refine thnF (pe.run _ s10 σ8 H10 _ I10 q10) fun z2 s11 ⟨yv, H11, I11, r11, H12, put, nx⟩ => ?_
        exact d_setP (X := X.blk s3 H3 scope ce fp) hu I11 put r10 r11 fun s12 I12 => fin I12 hl8 hk8 nx
  exact codeAny_compStart_dict loop (T.self X.A 0 _ _ _ st4 loop)
theorem pe_dp1 {kx vx tg iter : Expr} {ifs : List Expr} {scope : Scope} {own : List (Str × Nat)} {pos : Pos} {o0 : HO} {wi : TI} {g : TG} {tt : TT} {tk tv : TE} (hc : X.calm = true) (hu : X.A.units + 1 < cLine) (hN : X.N.Nodup) (hi : PI X tg iter wi) (ok : BlkOk X.N X.env.scope scope own)
    (hg : ∀ (s : Shared) (H : Hp) (C : Addr) (cl : List (Str × Addr)) (fp : List Addr), PG (X.blk s H scope (compEnvC scope cl C X.env) fp) tg g) (ht : ∀ (s : Shared) (H : Hp) (C : Addr) (cl : List (Str × Addr)) (fp : List Addr), PTs (X.blk s H scope (compEnvC scope cl C X.env) fp) ifs tt)
    (hk : ∀ (s : Shared) (H : Hp) (C : Addr) (cl : List (Str × Addr)) (fp : List Addr), PE (X.blk s H scope (compEnvC scope cl C X.env) fp) kx tk) (he : ∀ (s : Shared) (H : Hp) (C : Addr) (cl : List (Str × Addr)) (fp : List Addr), PE (X.blk s H scope (compEnvC scope cl C X.env) fp) vx tv)
    (ho : o0 = .dK [] ∨ o0 = .dT []) (hs : ∀ x, foldedSetIterable iter X.env x = pure x := by intro _; rfl) :
    PE X (.DictComp kx vx [⟨tg, iter, ifs, 0⟩] scope pos) (tDp1 o0 wi g tt tk tv (own.map (·.2))) := by
  refine ⟨fun pins s σ H Q I h => ?_⟩
  rw [arm_eval_DictComp]
  refine dp1_core hc hu hN I hi ok hg ht hk he ho hs h fun D C s' m H' I' q hn f => ⟨m, hn, fun h'' sb => ?_⟩
  obtain ⟨f0, f1, f2, f3, f4, f5⟩ := f
  exact ⟨.ref D, H', I'.turned (t' := s'.toks) (fun b o hb e => (sb.2 b hb).trans e) f0 f1 f3 f4 f5, rfl, q⟩
theorem ps_setDp1 {i : Nat} {y : Str} {py spos : Pos} {kx vx tg iter : Expr} {ifs : List Expr} {scope : Scope} {own : List (Str × Nat)} {pos : Pos} {o0 : HO} {wi : TI} {g : TG} {tt : TT} {tk tv : TE} (hc : X.calm = true) (hu : X.A.units + 1 < cLine) (hN : X.N.Nodup) (hy : X.N[i]? = some y) (hyl : X.env.scope.names.lookup y = some .local)
    (hsw : swapsWith (.DictComp kx vx [⟨tg, iter, ifs, 0⟩] scope pos) (some (.Name y py)) spos.line X.env = pure true) (hi : PI X tg iter wi) (ok : BlkOk X.N X.env.scope scope own)
    (hg : ∀ (s : Shared) (H : Hp) (C : Addr) (cl : List (Str × Addr)) (fp : List Addr), PG (X.blk s H scope (compEnvC scope cl C X.env) fp) tg g) (ht : ∀ (s : Shared) (H : Hp) (C : Addr) (cl : List (Str × Addr)) (fp : List Addr), PTs (X.blk s H scope (compEnvC scope cl C X.env) fp) ifs tt)
    (hk : ∀ (s : Shared) (H : Hp) (C : Addr) (cl : List (Str × Addr)) (fp : List Addr), PE (X.blk s H scope (compEnvC scope cl C X.env) fp) kx tk) (he : ∀ (s : Shared) (H : Hp) (C : Addr) (cl : List (Str × Addr)) (fp : List Addr), PE (X.blk s H scope (compEnvC scope cl C X.env) fp) vx tv)
    (ho : o0 = .dK [] ∨ o0 = .dT []) (hs : ∀ x, foldedSetIterable iter X.env x = pure x := by intro _; rfl) :
    PS X (.Assign [.Name y py] (.DictComp kx vx [⟨tg, iter, ifs, 0⟩] scope pos) spos) (tAsg (tDp1 o0 wi g tt tk tv (own.map (·.2))) (gName i)) := by
  refine ⟨fun pins s σ H D I h => ?_⟩
  rw [exec_Assign_Name_used _ _ _ _ hsw]
  refine wpAny_bind (wpAny_standAt (wpAny_bind ?_))
  show wpAny _ X.A (do let _ ← comprehension (.DictComp kx vx [⟨tg, iter, ifs, 0⟩] scope pos) scope X.env (firstIterPos [⟨tg, iter, ifs, 0⟩] pos) newDict false (eval iter X.env) (some (assign (.Name y py) X.env))) _ _ s
  have h : tDp1 o0 wi g tt tk tv (own.map (·.2)) σ H (fun x H1 => gName i x σ H1 D.nx) := h
  refine wpAny_bind (thn (dp1_core (Qf := fun _ s' => SP X pins D .next s') hc hu hN I hi ok hg ht hk he ho hs h fun L C s' m H' I' q hn f => ?_) fun _ s' hq => wpAny_pure (wpAny_pure hq))
  show wpAny _ _ (assign (.Name y py) X.env (.ref L)) _ _ _
  refine wpAny_assign_Name (store_ok2 (v := V.ref L) I' hN hy (.inl hyl) rfl (fun s2 I2 ⟨a, sb, ha⟩ => ?_) (.inr hyl))
  obtain ⟨f0, f1, f2, f3, f4, f5⟩ := f
  have haC : C ≠ a := by
    rcases ha with z | z
    · rw [z]; exact f1
    · exact fun e => f4 y a z e.symm
  refine ⟨m, hn.sameBut sb haC, fun h3 sb3 => ?_⟩
  exact ⟨_, H', I2.turned (t' := s2.toks) (fun b o hb e => (sb3.2 b hb).trans e) f0 f1 f3 f4 f5, q⟩
def tDp2 (o0 : HO) (wi : TI) (g : TG) (tt : TT) (wi1 : TI) (g1 : TG) (tt1 : TT) (tk tv : TE) (vs vs1 : List Nat) : TE := fun σ H Q => wi σ H fun J H1 => ∀ D, H1 D = none → ∃ W : Nat → Nat → Hp → Prop, (∃ m, W 0 m (upd H1 D o0)) ∧ ∀ i m H, W i m H →
  (J.stop i H ∧ Q (.ref D) H) ∨ (J.go i H ∧ ∃ Nx : Hp → Prop, (∀ H', Nx H' → ∃ m', m' < m ∧ W (i + 1) m' H') ∧ ∀ x H', J.yld i H x H' → g x (wipe σ vs) H' fun σ2 H2 => wipe σ2 vs = wipe σ vs ∧ tt σ2 H2 fun b H3 =>
    if b = true then wi1 σ2 H3 fun J1 H4 => ∃ W1 : Nat → Nat → Hp → Prop, (∃ m, W1 0 m H4) ∧ ∀ j k H, W1 j k H →
      (J1.stop j H ∧ Nx H) ∨ (J1.go j H ∧ ∃ Nx1 : Hp → Prop, (∀ H', Nx1 H' → ∃ k', k' < k ∧ W1 (j + 1) k' H') ∧ ∀ x H', J1.yld j H x H' → g1 x (wipe σ2 vs1) H' fun σ3 H5 => wipe σ3 vs1 = wipe σ2 vs1 ∧ tt1 σ3 H5 fun b H6 =>
        if b = true then tk σ3 H6 fun y H7 => tv σ3 H7 fun z H8 => ∃ H9, DPut H8 D y z H9 ∧ Nx1 H9 else Nx1 H6)
    else Nx H3)
theorem dp2_core {pins : List (Addr × Obj)} {s : Shared} {σ : L2.St} {H : Hp} {Q : VK} {use : Option (Value → Sem Unit)} {Qf : Value → Shared → Prop} {pos' : Pos} {kx vx tg iter tg1 iter1 : Expr} {ifs ifs1 : List Expr} {scope : Scope} {own : List (Str × Nat)} {vs1 : List Nat} {pos : Pos} {o0 : HO} {wi wi1 : TI} {g g1 : TG} {tt tt1 : TT} {tk tv : TE} (hc : X.calm = true) (hu : X.A.units + 1 < cLine) (hN : X.N.Nodup) (I : Inv X pins σ H s) (hi : PI X tg iter wi) (ok : BlkOk X.N X.env.scope scope own) (hv : ∀ i ∈ vs1, i ∈ own.map (·.2))
    (hg : ∀ (s : Shared) (H : Hp) (C : Addr) (cl : List (Str × Addr)) (fp : List Addr), PG (X.blk s H scope (compEnvC scope cl C X.env) fp) tg g) (ht : ∀ (s : Shared) (H : Hp) (C : Addr) (cl : List (Str × Addr)) (fp : List Addr), PTs (X.blk s H scope (compEnvC scope cl C X.env) fp) ifs tt)
    (hi1 : ∀ (s : Shared) (H : Hp) (C : Addr) (cl : List (Str × Addr)) (fp : List Addr), PI (X.blk s H scope (compEnvC scope cl C X.env) fp) tg1 iter1 wi1) (hg1 : ∀ (s : Shared) (H : Hp) (C : Addr) (cl : List (Str × Addr)) (fp : List Addr), PG (X.blk s H scope (compEnvC scope cl C X.env) fp) tg1 g1) (ht1 : ∀ (s : Shared) (H : Hp) (C : Addr) (cl : List (Str × Addr)) (fp : List Addr), PTs (X.blk s H scope (compEnvC scope cl C X.env) fp) ifs1 tt1)
    (hk : ∀ (s : Shared) (H : Hp) (C : Addr) (cl : List (Str × Addr)) (fp : List Addr), PE (X.blk s H scope (compEnvC scope cl C X.env) fp) kx tk) (he : ∀ (s : Shared) (H : Hp) (C : Addr) (cl : List (Str × Addr)) (fp : List Addr), PE (X.blk s H scope (compEnvC scope cl C X.env) fp) vx tv)
    (ho : o0 = .dK [] ∨ o0 = .dT []) (hs : ∀ x, foldedSetIterable iter X.env x = pure x) (hs1 : ∀ env x, foldedSetIterable iter1 env x = pure x)
    (h : tDp2 o0 wi g tt wi1 g1 tt1 tk tv (own.map (·.2)) vs1 σ H Q)
    (hRR : ∀ D C s' m H', Inv X pins σ H' s' → Q (.ref D) H' → s'.heap.Ns C m → FpOk X pins H' C → compPost (model X.prog X.w) X.A X.xe use Qf (.ref D) C (.ok .next) s') :
    wpAny (model X.prog X.w) X.A (comprehension (.DictComp kx vx [⟨tg, iter, ifs, 0⟩, ⟨tg1, iter1, ifs1, 0⟩] scope pos) scope X.env pos' newDict false (eval iter X.env) use) Qf X.xe s := by
  have hfree : ∀ y ∈ scope.names, y.2 = .free → ∃ c, X.env.cells.lookup y.1 = some c := fun y hy e => I.ok.has _ (ok.free y hy e)
  refine wpAny_comprehension_free (use := use) rfl hs (closure_ok hfree) ok.kind (fun y hy e => by rw [ok.uniq y hy, e]) (thn (hi.run pins s σ H _ I h) fun xv s1 hx => thn hx fun itv s2 h2 => ?_)
  obtain ⟨it, fp, tn, J, H2, e, I2, T, st2, f2, q⟩ := h2
  subst e
  refine wpAny_newObj_type (newEnv_comp ?_)
  generalize hD : s2.heap.objs.size = D
  obtain ⟨W, ⟨m0, w0⟩, turn⟩ := q D (I2.hok.fresh (Nat.le_of_eq hD))
  generalize hs3 : ({ s2 with heap := s2.heap.push { cls := .type "dict", data := .dict #[] } } : Shared) = s3
  have h3 : s3.heap = s2.heap.push { cls := .type "dict", data := .dict #[] } := by rw [← hs3]
  have I3 : Inv X pins σ (upd H2 D o0) s3 := by
    rw [← hs3]
    refine I2.laid (t' := s2.toks) (fun b o e => Heap.get?_push_of_some _ e) (Nat.le_of_eq hD) ?_
    rw [← hD]
    rcases ho with z | z
    · rw [z]; exact dk_empty s2.heap I2.big
    · rw [z]; exact dt_empty s2.heap I2.big
  have f3 : ∀ b ∈ fp, FpOk X pins (upd H2 D o0) b ∧ b < s3.heap.objs.size := fun b hb => by
    obtain ⟨o, e, _⟩ := T.obj _ _ st2 b hb
    have hlt := Heap.lt_size e
    refine ⟨⟨?_, (f2 b hb).2⟩, by rw [h3, Heap.size_push]; exact Nat.lt_succ_of_lt hlt⟩
    rw [upd_ne (by rw [← hD]; exact Nat.ne_of_lt hlt)]
    exact (f2 b hb).1
  have st3 : tn 0 s3.heap := T.keep _ _ _ st2 fun b _ o e => by rw [h3]; exact Heap.get?_push_of_some _ e
  generalize hH3 : upd H2 D o0 = H3 at I3 f3 w0
  have I4 := block_start I3 ok hN f3
  have pg := hg s3 H3 s3.heap.objs.size (cellsFrom (s3.heap.objs.size + 1) scope.names (cloFrom X.env.cells scope.names [])) fp
  have pt := ht s3 H3 s3.heap.objs.size (cellsFrom (s3.heap.objs.size + 1) scope.names (cloFrom X.env.cells scope.names [])) fp
  have pi1 := hi1 s3 H3 s3.heap.objs.size (cellsFrom (s3.heap.objs.size + 1) scope.names (cloFrom X.env.cells scope.names [])) fp
  have pg1 := hg1 s3 H3 s3.heap.objs.size (cellsFrom (s3.heap.objs.size + 1) scope.names (cloFrom X.env.cells scope.names [])) fp
  have pt1 := ht1 s3 H3 s3.heap.objs.size (cellsFrom (s3.heap.objs.size + 1) scope.names (cloFrom X.env.cells scope.names [])) fp
  have pk := hk s3 H3 s3.heap.objs.size (cellsFrom (s3.heap.objs.size + 1) scope.names (cloFrom X.env.cells scope.names [])) fp
  have pe := he s3 H3 s3.heap.objs.size (cellsFrom (s3.heap.objs.size + 1) scope.names (cloFrom X.env.cells scope.names [])) fp
  have nfp : ∀ b ∈ fp, H3 b = none := fun b hb => (f3 b hb).1.1
  show codeAny _ _ (.compStart (.DictComp kx vx [⟨tg, iter, ifs, 0⟩, ⟨tg1, iter1, ifs1, 0⟩] scope pos) 0 (.ref it) (.ref D) (compEnvC scope (cellsFrom (s3.heap.objs.size + 1) scope.names (cloFrom X.env.cells scope.names [])) s3.heap.objs.size X.env)) _ { s3 with heap := pushCells (s3.heap.push { cls := .type "dict", data := .dict #[] }) scope.names }
  generalize hce : compEnvC scope (cellsFrom (s3.heap.objs.size + 1) scope.names (cloFrom X.env.cells scope.names [])) s3.heap.objs.size X.env = ce at I4 pg pt pi1 pg1 pt1 pk pe ⊢
  have cL : ce.locals = s3.heap.objs.size := by subst hce; rfl
  generalize hs4 : ({ s3 with heap := pushCells (s3.heap.push { cls := .type "dict", data := .dict #[] }) scope.names } : Shared) = s4 at I4 ⊢
  have st4 : tn 0 s4.heap := T.keep _ _ _ st3 fun b _ o e => by rw [← hs4]; exact pushCells_keeps _ _ _ _ (Heap.get?_push_of_some _ e)
  have stat : ∀ {σ' : L2.St} {H' : Hp} {s' : Shared}, Inv (X.blk s3 H3 scope ce fp) [] σ' H' s' → (∀ b ∈ fp, H' b = none) → ∀ b ∈ fp, FpOk (X.blk s3 H3 scope ce fp) [] H' b := fun {σ' H' s'} I' hn b hb =>
    ⟨hn b hb, (I'.ok.exf b hb).1, I'.ok.exfs b hb, .inl hb, fun x c e => (I'.ok.exf b hb).2 x c e, fun p hp => nomatch (show p ∈ ([] : List (Addr × Obj)) from hp)⟩
  have loop : codeAny (model X.prog X.w) X.A (.compLoop (.DictComp kx vx [⟨tg, iter, ifs, 0⟩, ⟨tg1, iter1, ifs1, 0⟩] scope pos) 0 (.ref it) (.ref D) ce) (compPost (model X.prog X.w) X.A X.xe use Qf (.ref D) s3.heap.objs.size) s4 := by
    refine loop2_out (hs1 ce) (fun n s' => ∃ i H', Inv (X.blk s3 H3 scope ce fp) [] (wipe σ (own.map (·.2))) H' s' ∧ tn i s'.heap ∧ (∀ b ∈ fp, H' b = none) ∧ W i n H') ?_ m0 ⟨0, H3, I4, st4, nfp, w0⟩
    rintro n s5 ⟨i, H5, I5, st5, n5, w5⟩
    rcases turn i n H5 w5 with ⟨stop, qq⟩ | ⟨go, Nx, hNx, step⟩
    · refine thnF (T.done (X.blk s3 H3 scope ce fp) rfl rfl rfl hc i [] s5 _ H5 (fun _ _ => False) I5 (stat I5 n5) st5 stop) fun r s6 ⟨hr, I6⟩ => ?_
      subst hr
      have I7 : Inv X pins σ H5 s6 := I3.call' (ch := fp) I6.os I6.base I6.hok I6.bare fun b hb => ⟨(f3 b hb).1.2.2.2.1, (f3 b hb).1.2.1, (f3 b hb).1.2.2.2.2.1, (f3 b hb).1.2.2.2.2.2⟩
      have nC : H5 s3.heap.objs.size = none := by
        have z : H5 ce.locals = none := I6.free
        rw [cL] at z
        exact z
      obtain ⟨m, hn, _⟩ := I6.loc
      have hn : s6.heap.Ns ce.locals m := hn
      rw [cL] at hn
      exact hRR D s3.heap.objs.size s6 m H5 I7 qq hn (I3.fpOk (Nat.le_refl _) nC)
    · refine thnF (T.item (X.blk s3 H3 scope ce fp) rfl rfl rfl hc i [] s5 _ H5 (fun _ _ => False) I5 (stat I5 n5) st5 go) fun r s6 ⟨u, hr, h6⟩ => ?_
      subst hr
      refine thnF h6 fun _ s7 ⟨x, H7, I7, r7, y7, st7, n7⟩ => ?_
      have I7' := I7.pinned (stat I7 n7) (T.obj _ _ st7)
      refine thnF (pg.run _ s7 _ H7 x u _ I7' r7 (step x H7 y7)) fun _ s8 ⟨σ8, H8, I8, hw8, q8⟩ => ?_
      refine thnF (pt.run _ s8 σ8 H8 _ I8 q8) fun b s9 ⟨H9, I9, q9⟩ => ?_
      have fin : ∀ {σ9 : L2.St} {s' : Shared} {H' : Hp}, Inv (X.blk s3 H3 scope ce fp) ([] ++ pinsAt fp s7.heap) σ9 H' s' → (wipe σ (own.map (·.2))).length = σ9.length → (∀ (j : Nat) v, (wipe σ (own.map (·.2)))[j]? = some (some v) → σ9[j]? = some (some v)) → Nx H' →
          ∃ m, m < n ∧ ∃ i H', Inv (X.blk s3 H3 scope ce fp) [] (wipe σ (own.map (·.2))) H' s' ∧ tn i s'.heap ∧ (∀ b ∈ fp, H' b = none) ∧ W i m H' := fun {σ9 s' H'} I' hl hk nx => by
        obtain ⟨m', hm, w'⟩ := hNx H' nx
        have pin' : ∀ b ∈ fp, ∀ o, s7.heap.get? b = some o → s'.heap.get? b = some o ∧ H' b = none := fun b hb o e => by
          have z := I'.pin (b, o) (List.mem_append_right _ (List.mem_append_right _ (mem_pinsAt hb e)))
          exact ⟨z.1, z.2.1⟩
        refine ⟨m', hm, i + 1, H', (I'.unpinned (pins := [])).weak hl hk, T.keep _ _ _ st7 fun b hb o e => (pin' b hb o e).1, fun b hb => ?_, w'⟩
        obtain ⟨o, e, _⟩ := T.obj _ _ st7 b hb
        exact (pin' b hb o e).2
      have hl8 : (wipe σ (own.map (·.2))).length = σ8.length := by rw [← hw8, wipe_length]
      have hk8 : ∀ (j : Nat) v, (wipe σ (own.map (·.2)))[j]? = some (some v) → σ8[j]? = some (some v) := fun j v e => by
        rw [← hw8] at e
        exact (wipe_some e).1
      have hk9 : ∀ (j : Nat) v, (wipe σ (own.map (·.2)))[j]? = some (some v) → (wipe σ8 vs1)[j]? = some (some v) := fun j v e => by
        rw [← hw8] at e
        obtain ⟨e1, e2⟩ := wipe_some e
        rw [wipe_out fun z => e2 (hv j z)]
        exact e1
      cases b with
      | false =>
        simp only [Bool.false_eq_true, if_false] at q9 ⊢
        exact fin I9 hl8 hk8 q9
      | true =>
        simp only [if_true] at q9 ⊢
        refine thnF (pi1.run _ s9 σ8 H9 _ I9 q9) fun xv s10 hx => thnF hx fun itv s11 h11 => ?_
        obtain ⟨it1, fp1, tn1, J1, H11, e1, I11, T1, st11, f11, W1, ⟨m1, w1⟩, turn1⟩ := h11
        subst e1
        have stat1 : ∀ {H' : Hp}, (∀ b ∈ fp1, H' b = none) → ∀ b ∈ fp1, FpOk (X.blk s3 H3 scope ce fp) ([] ++ pinsAt fp s7.heap) H' b := fun hn b hb => ⟨hn b hb, (f11 b hb).2⟩
        have loop1 : codeAny (model X.prog X.w) X.A (.compLoop (.DictComp kx vx [⟨tg, iter, ifs, 0⟩, ⟨tg1, iter1, ifs1, 0⟩] scope pos) 1 (.ref it1) (.ref D) ce)
            (fun r s' => match r with
              | .ok _ => ∃ m, m < n ∧ ∃ i H', Inv (X.blk s3 H3 scope ce fp) [] (wipe σ (own.map (·.2))) H' s' ∧ tn i s'.heap ∧ (∀ b ∈ fp, H' b = none) ∧ W i m H'
              | .error _ => False) s11 := by
          refine loop2_in (fun k s' => ∃ j H', Inv (X.blk s3 H3 scope ce fp) ([] ++ pinsAt fp s7.heap) (wipe σ8 vs1) H' s' ∧ tn1 j s'.heap ∧ (∀ b ∈ fp1, H' b = none) ∧ W1 j k H') ?_ m1 ⟨0, H11, I11.weak (wipe_length _ _) (fun j v e => (wipe_some e).1), st11, fun b hb => (f11 b hb).1, w1⟩
          rintro k s12 ⟨j, H12, I12, st12, n12, w12⟩
          rcases turn1 j k H12 w12 with ⟨stop1, nx1⟩ | ⟨go1, Nx1, hNx1, step1⟩
          · refine thnF (T1.done (X.blk s3 H3 scope ce fp) rfl rfl rfl hc j _ s12 (wipe σ8 vs1) H12 (fun _ _ => False) I12 (stat1 n12) st12 stop1) fun r s13 ⟨hr, I13⟩ => ?_
            subst hr
            exact fin I13 (hl8.trans (wipe_length σ8 vs1).symm) hk9 nx1
          · refine thnF (T1.item (X.blk s3 H3 scope ce fp) rfl rfl rfl hc j _ s12 (wipe σ8 vs1) H12 (fun _ _ => False) I12 (stat1 n12) st12 go1) fun r s13 ⟨u1, hr, h13⟩ => ?_
            subst hr
            refine thnF h13 fun _ s14 ⟨x1, H14, I14, r14, y14, st14, n14⟩ => ?_
            have I14' := I14.pinned (stat1 n14) (T1.obj _ _ st14)
            refine thnF (pg1.run _ s14 (wipe σ8 vs1) H14 x1 u1 _ I14' r14 (step1 x1 H14 y14)) fun _ s15 ⟨σ15, H15, I15, hw15, q15⟩ => ?_
            refine thnF (pt1.run _ s15 σ15 H15 _ I15 q15) fun b1 s16 ⟨H16, I16, q16⟩ => ?_
            have fin1 : ∀ {s' : Shared} {H' : Hp}, Inv (X.blk s3 H3 scope ce fp) (([] ++ pinsAt fp s7.heap) ++ pinsAt fp1 s14.heap) σ15 H' s' → Nx1 H' →
                ∃ m, m < k ∧ ∃ j H', Inv (X.blk s3 H3 scope ce fp) ([] ++ pinsAt fp s7.heap) (wipe σ8 vs1) H' s' ∧ tn1 j s'.heap ∧ (∀ b ∈ fp1, H' b = none) ∧ W1 j m H' := fun {s' H'} I' nx => by
              obtain ⟨m', hm, w'⟩ := hNx1 H' nx
              have pin' : ∀ b ∈ fp1, ∀ o, s14.heap.get? b = some o → s'.heap.get? b = some o ∧ H' b = none := fun b hb o e => by
                have z := I'.pin (b, o) (List.mem_append_right _ (List.mem_append_right _ (mem_pinsAt hb e)))
                exact ⟨z.1, z.2.1⟩
              refine ⟨m', hm, j + 1, H', I'.unpinned.weak (by rw [← hw15, wipe_length]) (fun j v e => by rw [← hw15] at e; exact (wipe_some e).1), T1.keep _ _ _ st14 fun b hb o e => (pin' b hb o e).1, fun b hb => ?_, w'⟩
              obtain ⟨o, e, _⟩ := T1.obj _ _ st14 b hb
              exact (pin' b hb o e).2
            cases b1 with
            | false =>
              simp only [Bool.false_eq_true, if_false] at q16 ⊢
              exact fin1 I16 q16
            | true =>
              simp only [if_true] at q16 ⊢
              refine thnF (pk.run _ s16 σ15 H16 _ I16 q16) fun z s17 ⟨yk, H17, I17, r17, q17⟩ => ?_
              refine thnF (pe.run _ s17 σ15 H17 _ I17 q17) fun z2 s18 ⟨yv, H18, I18, r18, H19, put, nx⟩ => ?_
              exact d_setP (X := X.blk s3 H3 scope ce fp) hu I18 put r17 r18 fun s19 I19 => fin1 I19 nx
        exact start2 loop1 (T1.self X.A 0 _ _ _ st11 loop1)
  exact codeAny_compStart_dict loop (T.self X.A 0 _ _ _ st4 loop)
theorem pe_dp2 {kx vx tg iter tg1 iter1 : Expr} {ifs ifs1 : List Expr} {scope : Scope} {own : List (Str × Nat)} {vs1 : List Nat} {pos : Pos} {o0 : HO} {wi wi1 : TI} {g g1 : TG} {tt tt1 : TT} {tk tv : TE} (hc : X.calm = true) (hu : X.A.units + 1 < cLine) (hN : X.N.Nodup) (hi : PI X tg iter wi) (ok : BlkOk X.N X.env.scope scope own) (hv : ∀ i ∈ vs1, i ∈ own.map (·.2))
    (hg : ∀ (s : Shared) (H : Hp) (C : Addr) (cl : List (Str × Addr)) (fp : List Addr), PG (X.blk s H scope (compEnvC scope cl C X.env) fp) tg g) (ht : ∀ (s : Shared) (H : Hp) (C : Addr) (cl : List (Str × Addr)) (fp : List Addr), PTs (X.blk s H scope (compEnvC scope cl C X.env) fp) ifs tt)
    (hi1 : ∀ (s : Shared) (H : Hp) (C : Addr) (cl : List (Str × Addr)) (fp : List Addr), PI (X.blk s H scope (compEnvC scope cl C X.env) fp) tg1 iter1 wi1) (hg1 : ∀ (s : Shared) (H : Hp) (C : Addr) (cl : List (Str × Addr)) (fp : List Addr), PG (X.blk s H scope (compEnvC scope cl C X.env) fp) tg1 g1) (ht1 : ∀ (s : Shared) (H : Hp) (C : Addr) (cl : List (Str × Addr)) (fp : List Addr), PTs (X.blk s H scope (compEnvC scope cl C X.env) fp) ifs1 tt1)
    (hk : ∀ (s : Shared) (H : Hp) (C : Addr) (cl : List (Str × Addr)) (fp : List Addr), PE (X.blk s H scope (compEnvC scope cl C X.env) fp) kx tk) (he : ∀ (s : Shared) (H : Hp) (C : Addr) (cl : List (Str × Addr)) (fp : List Addr), PE (X.blk s H scope (compEnvC scope cl C X.env) fp) vx tv)
    (ho : o0 = .dK [] ∨ o0 = .dT []) (hs : ∀ x, foldedSetIterable iter X.env x = pure x := by intro _; rfl) (hs1 : ∀ env x, foldedSetIterable iter1 env x = pure x := by intro _ _; rfl) :
    PE X (.DictComp kx vx [⟨tg, iter, ifs, 0⟩, ⟨tg1, iter1, ifs1, 0⟩] scope pos) (tDp2 o0 wi g tt wi1 g1 tt1 tk tv (own.map (·.2)) vs1) := by
  refine ⟨fun pins s σ H Q I h => ?_⟩
  rw [arm_eval_DictComp]
  refine dp2_core hc hu hN I hi ok hv hg ht hi1 hg1 ht1 hk he ho hs hs1 h fun D C s' m H' I' q hn f => ⟨m, hn, fun h'' sb => ?_⟩
  obtain ⟨f0, f1, f2, f3, f4, f5⟩ := f
  exact ⟨.ref D, H', I'.turned (t' := s'.toks) (fun b o hb e => (sb.2 b hb).trans e) f0 f1 f3 f4 f5, rfl, q⟩
theorem ps_setDp2 {i : Nat} {y : Str} {py spos : Pos} {kx vx tg iter tg1 iter1 : Expr} {ifs ifs1 : List Expr} {scope : Scope} {own : List (Str × Nat)} {vs1 : List Nat} {pos : Pos} {o0 : HO} {wi wi1 : TI} {g g1 : TG} {tt tt1 : TT} {tk tv : TE} (hc : X.calm = true) (hu : X.A.units + 1 < cLine) (hN : X.N.Nodup) (hy : X.N[i]? = some y) (hyl : X.env.scope.names.lookup y = some .local)
    (hsw : swapsWith (.DictComp kx vx [⟨tg, iter, ifs, 0⟩, ⟨tg1, iter1, ifs1, 0⟩] scope pos) (some (.Name y py)) spos.line X.env = pure true) (hi : PI X tg iter wi) (ok : BlkOk X.N X.env.scope scope own) (hv : ∀ i ∈ vs1, i ∈ own.map (·.2))
    (hg : ∀ (s : Shared) (H : Hp) (C : Addr) (cl : List (Str × Addr)) (fp : List Addr), PG (X.blk s H scope (compEnvC scope cl C X.env) fp) tg g) (ht : ∀ (s : Shared) (H : Hp) (C : Addr) (cl : List (Str × Addr)) (fp : List Addr), PTs (X.blk s H scope (compEnvC scope cl C X.env) fp) ifs tt)
    (hi1 : ∀ (s : Shared) (H : Hp) (C : Addr) (cl : List (Str × Addr)) (fp : List Addr), PI (X.blk s H scope (compEnvC scope cl C X.env) fp) tg1 iter1 wi1) (hg1 : ∀ (s : Shared) (H : Hp) (C : Addr) (cl : List (Str × Addr)) (fp : List Addr), PG (X.blk s H scope (compEnvC scope cl C X.env) fp) tg1 g1) (ht1 : ∀ (s : Shared) (H : Hp) (C : Addr) (cl : List (Str × Addr)) (fp : List Addr), PTs (X.blk s H scope (compEnvC scope cl C X.env) fp) ifs1 tt1)
    (hk : ∀ (s : Shared) (H : Hp) (C : Addr) (cl : List (Str × Addr)) (fp : List Addr), PE (X.blk s H scope (compEnvC scope cl C X.env) fp) kx tk) (he : ∀ (s : Shared) (H : Hp) (C : Addr) (cl : List (Str × Addr)) (fp : List Addr), PE (X.blk s H scope (compEnvC scope cl C X.env) fp) vx tv)
    (ho : o0 = .dK [] ∨ o0 = .dT []) (hs : ∀ x, foldedSetIterable iter X.env x = pure x := by intro _; rfl) (hs1 : ∀ env x, foldedSetIterable iter1 env x = pure x := by intro _ _; rfl) :
    PS X (.Assign [.Name y py] (.DictComp kx vx [⟨tg, iter, ifs, 0⟩, ⟨tg1, iter1, ifs1, 0⟩] scope pos) spos) (tAsg (tDp2 o0 wi g tt wi1 g1 tt1 tk tv (own.map (·.2)) vs1) (gName i)) := by
  refine ⟨fun pins s σ H D I h => ?_⟩
  rw [exec_Assign_Name_used _ _ _ _ hsw]
  refine wpAny_bind (wpAny_standAt (wpAny_bind ?_))
  show wpAny _ X.A (do let _ ← comprehension (.DictComp kx vx [⟨tg, iter, ifs, 0⟩, ⟨tg1, iter1, ifs1, 0⟩] scope pos) scope X.env (firstIterPos [⟨tg, iter, ifs, 0⟩, ⟨tg1, iter1, ifs1, 0⟩] pos) newDict false (eval iter X.env) (some (assign (.Name y py) X.env))) _ _ s
  have h : tDp2 o0 wi g tt wi1 g1 tt1 tk tv (own.map (·.2)) vs1 σ H (fun x H1 => gName i x σ H1 D.nx) := h
  refine wpAny_bind (thn (dp2_core (Qf := fun _ s' => SP X pins D .next s') hc hu hN I hi ok hv hg ht hi1 hg1 ht1 hk he ho hs hs1 h fun L C s' m H' I' q hn f => ?_) fun _ s' hq => wpAny_pure (wpAny_pure hq))
  show wpAny _ _ (assign (.Name y py) X.env (.ref L)) _ _ _
  refine wpAny_assign_Name (store_ok2 (v := V.ref L) I' hN hy (.inl hyl) rfl (fun s2 I2 ⟨a, sb, ha⟩ => ?_) (.inr hyl))
  obtain ⟨f0, f1, f2, f3, f4, f5⟩ := f
  have haC : C ≠ a := by
    rcases ha with z | z
    · rw [z]; exact f1
    · exact fun e => f4 y a z e.symm
  refine ⟨m, hn.sameBut sb haC, fun h3 sb3 => ?_⟩
  exact ⟨_, H', I2.turned (t' := s2.toks) (fun b o hb e => (sb3.2 b hb).trans e) f0 f1 f3 f4 f5, q⟩
theorem swD_true {kx vx : Expr} {gs : List Comprehension} {scope : Scope} {pos py : Pos} {y : Str} {l : Nat} {env : Env} (hk : env.scope.kind = .function) (hy : env.scope.names.lookup y = some .local) (hl : (py.line == pos.line) = true)
    (ha : (scope.names.any fun (n, k) => n == y && (k == .local || k == .cell)) = false) : swapsWith (.DictComp kx vx gs scope pos) (some (.Name y py)) l env = pure true := by
  have ky : env.kindOf y = some .local := hy
  have hb : env.blockKind = .function := by unfold Env.blockKind; rw [hk]; rfl
  unfold swapsWith
  simp only [hb, ky, ha, Expr.pos, hl]
  rfl
end
end MN
/-! lists and tuples of texts and truths as data -/
namespace MN
open PySem PySem.Spec PyProof.Rows L2
section
variable {K : PySem.W.Frag} {H : Hp}
theorem dp_strs : ∀ zs : List Str, DpAll K H (zs.map V.str) (zs.map PyData.str)
  | [] => .nil
  | z :: zs => .cons (.str z) (dp_strs zs)
theorem dp_bls : ∀ bs : List Bool, DpAll K H (bs.map V.bl) (bs.map PyData.bool)
  | [] => .nil
  | b :: bs => .cons (.bl b) (dp_bls bs)
theorem dpT {t : Addr} {zs : List Str} (h : SqT K H t (zs.map V.str)) : Dp K H (.ref t) (.tuple (zs.map PyData.str)) := .tup h (dp_strs zs)
theorem dpL {t : Addr} {zs : List Str} (h : SqL K H t (zs.map V.str)) : Dp K H (.ref t) (.list (zs.map PyData.str)) := .lst h (dp_strs zs)
theorem dpB {t : Addr} {bs : List Bool} (h : SqL K H t (bs.map V.bl)) : Dp K H (.ref t) (.list (bs.map PyData.bool)) := .lst h (dp_bls bs)
theorem layAll (zs : List PyData) (h : ∀ d ∈ zs, d.canLay0 = true) : PyData.canLayAll0 zs = true := by
  induction zs with
  | nil => rfl
  | cons z zs ih =>
    rw [PyData.canLayAll0, h z List.mem_cons_self, ih fun d hd => h d (List.mem_cons_of_mem _ hd)]
    rfl
theorem depthAll0 (zs : List PyData) {n : Nat} (h : ∀ d ∈ zs, d.depth ≤ n) : PyData.depthAll zs ≤ n := by
  induction zs with
  | nil => simp [PyData.depthAll]
  | cons z zs ih =>
    rw [PyData.depthAll]
    have h1 := h z List.mem_cons_self
    have h2 := ih fun d hd => h d (List.mem_cons_of_mem _ hd)
    omega
theorem shapedT {zs : List PyData} (h : ∀ d ∈ zs, d.canLay0 = true ∧ d.depth ≤ 60) : SeqAt.shaped (.tuple zs) = true := by
  unfold SeqAt.shaped
  rw [PyData.canLay0, layAll zs fun d hd => (h d hd).1, PyData.depth]
  have := depthAll0 zs (n := 60) fun d hd => (h d hd).2
  simp only [Bool.true_and, decide_eq_true_eq]
  omega
theorem shapedL {zs : List PyData} (h : ∀ d ∈ zs, d.canLay0 = true ∧ d.depth ≤ 60) : SeqAt.shaped (.list zs) = true := by
  unfold SeqAt.shaped
  rw [PyData.canLay0, layAll zs fun d hd => (h d hd).1, PyData.depth]
  have := depthAll0 zs (n := 60) fun d hd => (h d hd).2
  simp only [Bool.true_and, decide_eq_true_eq]
  omega
theorem eqv_self {d : PyData} (h : SeqAt.shaped d = true) : PyData.eqv d d = true := SeqAt.eqv_refl d (SeqAt.canLay_of_shaped h)
end
end MN
/-! the head's facts: defs at any address, one more Bool -/
namespace MN
open PySem PySem.Spec PyProof.Rows L2
def obsX (ex : PySem.W.Frag → Bool) (fn : List He5.DefA) (K : PySem.W.Frag) : He.AlD := (ex K && fn.all fun d => d.ok K, fn.map fun d => He5.fnA K (d.at_ K))
def SaysX (ex : PySem.W.Frag → Bool) (fn : List He5.DefA) (K : PySem.W.Frag) : Prop := obsX ex fn K = He5.valA fn
def obsXG (n : Nat) (ex : PySem.W.Frag → Bool) (fn : List He5.DefA) (g : Addr → Option Obj) : He.AlD := obsX ex fn (He.frG g (He5.asA g n))
def hookX (n : Nat) (ex : PySem.W.Frag → Bool) (fn : List He5.DefA) : PySem.W.Hook where
  α := He.AlD
  obs := fun s => obsXG n ex fn s.heap.get?
  val := fun _ => He5.valA fn
  says := fun _ h => ∃ K : PySem.W.Frag, K.In h ∧ SaysX ex fn K
  of := fun _ _ e => ⟨_, He.frG_in, e⟩
  keeps := fun _ _ _ ⟨K, hK, c⟩ k => ⟨K, PySem.W.Frag.In.keeps hK k, c⟩
theorem obsXG_eq {n : Nat} {ex : PySem.W.Frag → Bool} {fn : List He5.DefA} {g : Addr → Option Obj} {s : Shared} (h : ∀ a, g a = s.heap.get? a) : obsXG n ex fn g = (hookX n ex fn).obs s := by
  have e : g = s.heap.get? := funext h
  rw [e] <;> rfl
section
variable {ex : PySem.W.Frag → Bool} {fn : List He5.DefA} {K : PySem.W.Frag}
theorem SaysX.all (c : SaysX ex fn K) : ex K = true := (He.ba (show (ex K && fn.all fun d => d.ok K) = true from congrArg (fun z : He.AlD => z.1) c)).1
theorem SaysX.def_ (c : SaysX ex fn K) (i : Nat) {d : He5.DefA} (h : fn[i]? = some d := by rfl) : ∃ fd, L2.FunD K d.name d.qual d.params d.body d.scope (d.dvs K) (d.kws K) (d.at_ K) fd := by
  have c2 := (He.ba (show (ex K && fn.all fun d => d.ok K) = true from congrArg (fun z : He.AlD => z.1) c)).2
  have e : fn.map (fun d => He5.fnA K (d.at_ K)) = fn.map He5.DefA.val := congrArg (fun z : He.AlD => z.2) c
  have e2 : (fn.map fun d => He5.fnA K (d.at_ K))[i]? = (fn.map He5.DefA.val)[i]? := by rw [e]
  rw [List.getElem?_map, List.getElem?_map, h] at e2
  exact He5.DefA.funD (Option.some.inj e2) (List.all_eq_true.mp c2 d (List.mem_of_getElem? h))
end
/-- a def of the top -/
def gDef (x : Str) (st : Stmt) : He5.DefA := { at_ := fun K => He.ga K x, name := x, qual := x, params := defArgs st, body := defBody st, scope := defScope st }
/-! ### a class with slots -/
def scB (K : PySem.W.Frag) (C : Addr) : Bool := PySem.W.plainGet K C Str.empty && (PySem.W.isClsIn K C && (PySem.W.plainOver K C && He.eqO (PySem.W.findIn K (.ref C) "__setattr__") (some (some (.builtin "object.__setattr__")))))
theorem scB_ok {K : PySem.W.Frag} {C : Addr} (h : scB K C = true) : SlX.SCls K C := by
  obtain ⟨h1, h⟩ := He.ba h
  obtain ⟨h2, h⟩ := He.ba h
  obtain ⟨h3, h4⟩ := He.ba h
  exact ⟨h1, h2, h3, He.eqO_ok h4⟩
def siB (K : PySem.W.Frag) (C : Addr) : Bool := He.eqO (PySem.W.findIn K (.ref C) "__class__") (some (some (.builtin "object.__class__"))) && (He.eqO (PySem.W.specialIn K (.builtin "object.__class__") "__get__") (some (some (.builtin "getset_descriptor.__get__"))) &&
  (decide (PySem.W.takesIn K (.builtin "object.__class__") = some true) && decide (PySem.W.mroIn K C (.type "object") = some true)))
theorem siB_ok {K : PySem.W.Frag} {C : Addr} (h : siB K C = true) : SlX.SIsi K C := by
  obtain ⟨h1, h⟩ := He.ba h
  obtain ⟨h2, h⟩ := He.ba h
  obtain ⟨h3, h4⟩ := He.ba h
  exact ⟨He.eqO_ok h1, He.eqO_ok h2, of_decide_eq_true h3, of_decide_eq_true h4⟩
def slB (K : PySem.W.Frag) (C : Addr) (f : Str) : Bool := He.eqO (PySem.W.findIn K (.ref C) f) (some (some (.ref (He.ma K C f)))) && (He.eqO (PySem.W.specialIn K (.ref (He.ma K C f)) "__get__") (some (some (.builtin "member_descriptor.__get__"))) &&
  (decide (PySem.W.takesIn K (.ref (He.ma K C f)) = some true) && (decide (PySem.W.typeIn K (.ref (He.ma K C f)) = some (.type "member_descriptor")) && (match PySem.W.slotIn K (He.ma K C f) C with
    | some i => decide (i < 1000)
    | none => false))))
theorem slB_ok {K : PySem.W.Frag} {C : Addr} {f : Str} (h : slB K C f = true) : ∃ p i, SlX.Slot1 K C f p i := by
  obtain ⟨h1, h⟩ := He.ba h
  obtain ⟨h2, h⟩ := He.ba h
  obtain ⟨h3, h⟩ := He.ba h
  obtain ⟨h4, h5⟩ := He.ba h
  cases e : PySem.W.slotIn K (He.ma K C f) C with
  | none =>
    rw [e] at h5
    cases h5
  | some i =>
    rw [e] at h5
    exact ⟨_, i, He.eqO_ok h1, He.eqO_ok h2, of_decide_eq_true h3, of_decide_eq_true h4, e, of_decide_eq_true h5⟩
/-- attributes and classmethods read off the class -/
def rdB (K : PySem.W.Frag) (C : Addr) : Bool := PySem.W.readsIn K C (.type "type") && He.eqO (PySem.W.specialIn K (.ref C) "__getattribute__") (some (some (.builtin "type.__getattribute__")))
theorem rdB_ok {K : PySem.W.Frag} {C : Addr} (h : rdB K C = true) : ClX.CRead K C (.type "type") := by
  obtain ⟨h1, h2⟩ := He.ba h
  exact ⟨h1, He.eqO_ok h2⟩
def cmB (K : PySem.W.Frag) (C : Addr) (m : Str) : Bool := He5.wrapB K C "classmethod" "classmethod.__get__" m && PySem.W.fnIn K (He5.wf K C "classmethod" m)
theorem cmB_ok {K : PySem.W.Frag} {C : Addr} {m : Str} (h : cmB K C m = true) : ClX.CMet K C (.type "type") m (He.ma K C m) (He5.wf K C "classmethod" m) := by
  obtain ⟨h1, h2⟩ := He.ba h
  exact He5.cmet_of h1 h2
/-! ### names -/
def freeAll (K : PySem.W.Frag) (xs : List Str) : Bool := xs.all fun x => (He.Fa.free x).ok K
def gloAll (K : PySem.W.Frag) (xs : List Str) : Bool := xs.all fun x => (He.Fa.glo x).ok K
section
variable {K : PySem.W.Frag} {h : Heap} {mg : Str → Option Value}
theorem freeAll_ok (X : K.In h) (G : h.Ns mainGlobals mg) {xs : List Str} (c : freeAll K xs = true) : ∀ x ∈ xs, mg x = none := fun x hx => He.free_ok X G (List.all_eq_true.mp c x hx)
theorem gloAll_ok (X : K.In h) (G : h.Ns mainGlobals mg) {xs : List Str} (c : gloAll K xs = true) {x : Str} (hx : x ∈ xs) : mg x = some (.ref (He.ga K x)) := He.glo_ok X G (List.all_eq_true.mp c x hx)
theorem intC_ok (X : K.In h) (G : h.Ns mainGlobals mg) {x : Str} {i : Int} (c : (He.Fa.int x i).ok K = true) : ∃ u, mg x = some u ∧ RelV (.int i) u := by
  obtain ⟨t, e⟩ := He.int_ok X G c
  exact ⟨_, e, t, rfl⟩
theorem strC_ok (X : K.In h) (G : h.Ns mainGlobals mg) {x z : Str} (c : (He.Fa.str x z).ok K = true) : ∃ u, mg x = some u ∧ RelV (.str z) u := by
  obtain ⟨t, e⟩ := He.str_ok X G c
  exact ⟨_, e, t, rfl⟩
end
end MN
/-! the head's facts in several runs (each a kernel run of its own: the memory of one alone would not do) -/
namespace MN
open PySem PySem.Spec PyProof.Rows L2
/-- one look: a Bool of the fragment, and defs -/
abbrev Look : Type := (PySem.W.Frag → Bool) × List He5.DefA
/-- the fragment is all of the heap below n: to gather what the names reach costs far more memory -/
def obsXR (n : Nat) (ex : PySem.W.Frag → Bool) (fn : List He5.DefA) (g : Addr → Option Obj) : He.AlD := obsX ex fn (He.frG g (List.range n))
def obsL (n : Nat) (ps : List Look) (g : Addr → Option Obj) : List He.AlD := ps.map fun p => obsXR n p.1 p.2 g
def hookL (n : Nat) (ps : List Look) : PySem.W.Hook where
  α := List He.AlD
  obs := fun s => obsL n ps s.heap.get?
  val := fun _ => ps.map fun p => He5.valA p.2
  says := fun _ h => ∃ K : PySem.W.Frag, K.In h ∧ ∀ p ∈ ps, SaysX p.1 p.2 K
  of := fun w s e => ⟨_, He.frG_in, fun p hp => by
    have e' : ps.map (fun p => obsXR n p.1 p.2 s.heap.get?) = ps.map fun p => He5.valA p.2 := e
    exact List.map_inj_left.mp e' p hp⟩
  keeps := fun _ _ _ ⟨K, hK, c⟩ k => ⟨K, PySem.W.Frag.In.keeps hK k, c⟩
def obL (n : Nat) (ps : List Look) (s : PySem.W.SharedT) : List He.AlD := obsL n ps (HandSHeadRun.getT s)
theorem obL_eq (n : Nat) (ps : List Look) (s : PySem.W.SharedT) : obL n ps s = (hookL n ps).obs s.abs := by
  have e : HandSHeadRun.getT s = s.abs.heap.get? := funext (HandSHeadRun.getT_eq s)
  show obsL n ps (HandSHeadRun.getT s) = obsL n ps s.abs.heap.get?
  rw [e]
section
variable (r : PySem.W.OpenRow) (M : Nat)
/-- the top's end -/
noncomputable abbrev endQ (w : World) (os : OsState) : Option PySem.W.SharedT := HandSHeadRun.endF (HandSHeadRun.stepQ (HandSHeadRun.denQ HandSHeadRun.tabQ) r.prog w) M r.prog w os
def RunL : Prop := ∀ w os, (endQ r M w os).map (fun s => HandSHeadRun.looksF r.prog (PySem.W.boot_heap w.params) s.abs) = some true
def RunN (q : Program) (loose : List Str) : Prop := ∀ w os, (endQ r M w os).map (fun s => HandSHeadRun.seenQ q loose (importedModules r.prog.main.body) (fun s => PySem.W.xlAt q [] s && PySem.W.recOk r.toRowW.records s) s.abs) = some (PySem.W.openGood q loose)
def RunP (n : Nat) (p : Look) : Prop := ∀ w os, (endQ r M w os).map (fun s => obsXR n p.1 p.2 (HandSHeadRun.getT s)) = some (He5.valA p.2)
theorem run_of {q : Program} {loose : List Str} {n : Nat} {ps : List Look} (h1 : RunL r M) (h2 : RunN r M q loose) (h3 : ∀ p ∈ ps, RunP r M n p) (w : World) : HandSHeadRun.RunEq r q (hookL n ps) (obL n ps) M loose w := by
  intro os
  obtain ⟨s, hs, l1⟩ := Option.map_eq_some_iff.mp (h1 w os)
  have l2 := h2 w os
  rw [hs] at l2
  have l3 : obL n ps s = ps.map fun p => He5.valA p.2 := by
    refine List.map_congr_left fun p hp => ?_
    have l := h3 p hp w os
    rw [hs] at l
    exact Option.some.inj l
  have l2' := Option.some.inj l2
  show (endQ r M w os).map _ = _
  rw [hs]
  exact congrArg some (Prod.ext l1 (Prod.ext l2' l3))
end
end MN
/-! the head's facts of defs that make lambdas (tables of code objects) and of own exceptions -/
namespace MN
open PySem PySem.Spec PyProof.Rows L2 MNE
def isTab : Option Obj → Bool
  | some ⟨.none, none, .fields vs, sl⟩ => vs.size == 0 && sl.size == 0
  | _ => false
theorem isTab_ok {o : Option Obj} (h : isTab o = true) : o = some (PySem.W.tabObj #[]) := by
  unfold isTab at h
  split at h
  · rename_i vs sl
    simp only [Bool.and_eq_true, beq_iff_eq] at h
    have h1 : vs = #[] := Array.eq_empty_of_size_eq_zero h.1
    have h2 : sl = #[] := Array.eq_empty_of_size_eq_zero h.2
    subst h1 h2
    rfl
  · cases h
/-- the code object of a def, its table -/
def codeA (K : PySem.W.Frag) (f : Addr) : Addr := match K.lookup f with
  | some ⟨_, _, .func fd, _⟩ => (match fd.code with | .ref c => c | _ => 0)
  | _ => 0
def tabA (K : PySem.W.Frag) (c : Addr) : Addr := match K.lookup c with
  | some ⟨_, _, .fields vs, _⟩ => (match (vs[11]? : Option Value) with | some (.ref P) => P | _ => 0)
  | _ => 0
abbrev cdX (K : PySem.W.Frag) (x : Str) : Addr := codeA K (He.ga K x)
abbrev tbX (K : PySem.W.Frag) (x : Str) : Addr := tabA K (cdX K x)
def codeOk (K : PySem.W.Frag) (f : Addr) : Bool := match K.lookup f with
  | some ⟨_, _, .func fd, _⟩ => (match fd.code with | .ref _ => true | _ => false)
  | _ => false
def mkB (K : PySem.W.Frag) (x : Str) : Bool := codeOk K (He.ga K x) && (PySem.W.codeHdIn K (cdX K x) (tbX K x) && (K.lookup (tbX K x)).isNone)
/-- a def of the top whose code object is known -/
def AtC (K : PySem.W.Frag) (mg : Str → Option Value) (x : Str) (st : Stmt) (c : Addr) : Prop := ∃ f fd, FunD K x x (defArgs st) (defBody st) (defScope st) [] [] f fd ∧ mg x = some (.ref f) ∧ fd.code = .ref c
theorem AtC.at {K : PySem.W.Frag} {mg : Str → Option Value} {x : Str} {st : Stmt} {c : Addr} (A : AtC K mg x st c) : At K mg x st := by
  obtain ⟨f, fd, F, h, _⟩ := A
  exact ⟨f, fd, F, h⟩
theorem atC_of {K : PySem.W.Frag} {mg : Str → Option Value} {x : Str} {st : Stmt} {fd : FuncData} (F : FunD K x x (defArgs st) (defBody st) (defScope st) [] [] (He.ga K x) fd) (h : mg x = some (.ref (He.ga K x))) (b : mkB K x = true) : AtC K mg x st (cdX K x) := by
  refine ⟨_, fd, F, h, ?_⟩
  obtain ⟨b1, _⟩ := He.ba b
  obtain ⟨oc, od, dV, kV, doc, pm, an, cdv, ct, osl, e, lk, _⟩ := F.ex
  subst e
  unfold codeOk at b1
  unfold cdX codeA
  rw [lk] at b1 ⊢
  show cdv = _
  cases cdv with
  | ref c => rfl
  | _ => cases b1
section
variable {P : Program} {w : World} {K : PySem.W.Frag} {mg : Str → Option Value} {base : Heap}
theorem fnG_ofC {x : Str} {st : Stmt} {N ps : List Str} {k : Nat} {sp : Sp} {f : Addr} {fd : FuncData} {c : Addr} (F : FunD K x x (defArgs st) (defBody st) (defScope st) [] [] f fd) (hc : fd.code = .ref c) (S : FnScope N ps (defScope st)) (len : ∀ vs H Q E, sp vs H Q E → vs.length = ps.length)
    (hbody : ∀ (A : Around) (outer : List Env) (s : Shared) (H : Hp) (vs : List V) (Q : VK) (E : XK), (A.deeper (envOfC x (defScope st) s.heap.objs.size f (.ref c))).guards = some [] → Room k (A.deeper (envOfC x (defScope st) s.heap.objs.size f (.ref c))) → sp vs H Q E →
      ∃ t, PSs (cxOf CX0 P w K mg base N x (defScope st) f (.ref c) A outer s H E).nox (defBody st) t ∧ t { nx := fun _ H' => Q .non H', rt := Q } (start N vs) H) : FnG P w K mg base (k + 1) f fd ps sp := by
  refine ⟨len, fun A outer s H args us vs Q E gd hr e0 hb r hsp => ?_⟩
  obtain ⟨oc, od, dV, kV, doc, pm, an, cdv, ct, osl, rfl, lk, hcd, -, -⟩ := F.ex
  cases (show cdv = .ref c from hc)
  have kin : ∀ b o, base.get? b = some o → s.heap.get? b = some o := fun b o e => (e0.bs b o e).1
  have KX : K.In s.heap := e0.mod.kin.keeps kin
  refine codeAny_call_function hr.depth (KX _ _ lk) rfl S.co S.gen rfl (PySem.W.codeRec_of KX hcd) (hb _ _ _ _ ?_)
  refine wpAny_newFunctionEnv_cells S.kind (fun y hy => (S.par y.1 (List.of_mem_zip hy).1).imp id fun q => ⟨q, PySem.W.cellsFrom_some _ _ _ (.inl q)⟩) fun env he s1 ic => ?_
  cases he
  refine ⟨(e0.mod.nolimit.keeps kin).keeps ic.toInCall.keep, codeAny_func ?_⟩
  obtain ⟨t, ht, hq⟩ := hbody A outer s H vs Q E gd (hr.deeper _) hsp
  have I : Inv (cxOf CX0 P w K mg base N x (defScope st) f (.ref c) A outer s H E) [] (start N vs) H s1 := inv_start S hr.hd e0 (len _ _ _ _ hsp) r ic
  refine wpAny_mono (ht.nox.run [] s1 (start N vs) H _ I hq) (fun fl s' hs => ?_) fun _ _ hs => hs
  match fl, hs with
  | .ret u, ⟨v, σ', H', J, rv, q⟩ => exact ⟨v, H', J.os, J.bare, J.base, J.hok, rv, q⟩
  | .next, ⟨σ', H', J, q⟩ => exact ⟨V.non, H', J.os, J.bare, J.base, J.hok, rfl, q⟩
  | .brk, ⟨_, _, _, q⟩ => exact q.elim
  | .cont, ⟨_, _, _, q⟩ => exact q.elim
theorem calG_ofC {x : Str} {st : Stmt} {N ps : List Str} {k : Nat} {sp : Sp} {c : Addr} (A : AtC K mg x st c) (S : FnScope N ps (defScope st)) (hb : BindEq x st ps) (len : ∀ vs H Q E, sp vs H Q E → vs.length = ps.length)
    (hbody : ∀ (f : Addr) (A : Around) (outer : List Env) (s : Shared) (H : Hp) (vs : List V) (Q : VK) (E : XK), (A.deeper (envOfC x (defScope st) s.heap.objs.size f (.ref c))).guards = some [] → Room k (A.deeper (envOfC x (defScope st) s.heap.objs.size f (.ref c))) → sp vs H Q E →
      ∃ t, PSs (cxOf CX0 P w K mg base N x (defScope st) f (.ref c) A outer s H E).nox (defBody st) t ∧ t { nx := fun _ H' => Q .non H', rt := Q } (start N vs) H) : CalG P w K mg base (k + 1) x sp := by
  obtain ⟨f, fd, F, hm, hc⟩ := A
  exact ⟨f, fd, ps, fnG_ofC F hc S len (hbody f), hm, F.kp, F.bindsN hb⟩
end
/-! ### own exceptions -/
/-- the built-in class behind -/
inductive Bk where
  | idx
  | ovf
  | lku
  | ari
def Bk.B : Bk → String
  | .idx => "IndexError"
  | .ovf => "OverflowError"
  | .lku => "LookupError"
  | .ari => "ArithmeticError"
def Bk.N : Bk → String
  | .idx => "IndexError.__new__"
  | .ovf => "OverflowError.__new__"
  | .lku => "LookupError.__new__"
  | .ari => "ArithmeticError.__new__"
def Bk.I : Bk → String
  | .idx => "IndexError.__init__"
  | .ovf => "OverflowError.__init__"
  | .lku => "LookupError.__init__"
  | .ari => "ArithmeticError.__init__"
def Bk.m : Bk → List Value
  | .idx => [.type "IndexError", .type "LookupError", .type "Exception", .type "BaseException", .type "object"]
  | .ovf => [.type "OverflowError", .type "ArithmeticError", .type "Exception", .type "BaseException", .type "object"]
  | .lku => [.type "LookupError", .type "Exception", .type "BaseException", .type "object"]
  | .ari => [.type "ArithmeticError", .type "Exception", .type "BaseException", .type "object"]
theorem Bk.ok : ∀ b : Bk, BaseT b.B b.N b.I b.m
  | .idx => ⟨PySem.F.excBase_IndexError, PySem.W.kxs_IndexError, PySem.F.store_IndexError.passes, by decide +kernel⟩
  | .ovf => ⟨PySem.F.excBase_OverflowError, PySem.W.kxs_OverflowError, PySem.F.store_OverflowError.passes, by decide +kernel⟩
  | .lku => ⟨PySem.F.excBase_LookupError, PySem.W.kxs_LookupError, PySem.F.store_LookupError.passes, by decide +kernel⟩
  | .ari => ⟨PySem.F.excBase_ArithmeticError, PySem.W.kxs_ArithmeticError, PySem.F.store_ArithmeticError.passes, by decide +kernel⟩
/-- an own exception: its name, its field, what is behind, its __init__ -/
structure ErD where
  x : Str
  f : Str
  b : Bk
  st : Stmt
abbrev ErD.C (d : ErD) (K : PySem.W.Frag) : Addr := He.ga K d.x
abbrev ErD.I (d : ErD) (K : PySem.W.Frag) : Addr := He.ma K (d.C K) "__init__"
/-- a function's parts, the cells' addresses left out -/
def fnZ (K : PySem.W.Frag) (a : Addr) : He.FnW := match K.lookup a with
  | some ⟨_, _, .func fd, _⟩ => some (fd.name, fd.qualname, fd.params, fd.body, fd.scope, fd.globals, fd.closure.map fun c => (c.1, 0), fd.builtins)
  | _ => none
def ErD.val (d : ErD) : He.FnW := some ("__init__", d.x ++ ".__init__", defArgs d.st, .stmts (defBody d.st), defScope d.st, mainGlobals, [("__class__", 0)], builtinsNs)
def ErD.ok1 (d : ErD) (K : PySem.W.Frag) : Bool := ownCls K (d.C K) d.b.m d.b.N && (He.eqO (PySem.W.ks_superIn K (d.C K) (d.C K) "__init__") (some (some (.builtin d.b.I))) && (decide (PySem.W.subIn K (.ref (d.C K)) (.type d.b.B) = some true) &&
  (He.eqO (PySem.W.findIn K (.ref (d.C K)) "__setattr__") (some (some (.builtin "object.__setattr__"))) && (xfB K (d.C K) && (He.eqO (PySem.W.findIn K (.ref (d.C K)) d.f) (some none) && (He.eqO (PySem.W.findIn K (.ref (d.C K)) "__init__") (some (some (.ref (d.I K)))) &&
  (decide (PySem.W.typeIn K (.ref (d.I K)) = some (.type "function")) && (PySem.W.keepIn K (.ref (d.C K)) && (decide (PySem.W.typeIn K (.ref (d.C K)) = some (.type "type")) && He.eqO (PySem.W.nsIn K cStatics "thirdparty.any") (some none))))))))))
def ErD.ok2 (d : ErD) (file : Str) (K : PySem.W.Frag) : Bool := match K.lookup (d.I K) with
  | some ⟨_, _, .func fd, _⟩ => (match fd.code, fd.closure, fd.defaults, fd.kwdefaults with
    | .ref c, [(_, cc)], .none, .none => PySem.W.codeIn K (.ref c) fd.qualname && ((match K.lookup cc with
        | some ⟨_, _, .cell (some (.ref D)), _⟩ => D == d.C K
        | _ => false) && (match K.lookup c with
        | some ⟨_, _, .fields vs, _⟩ => (match (vs[2]? : Option Value) with
          | some (.str fl _) => file == fl
          | _ => false)
        | _ => false))
    | _, _, _, _ => false)
  | _ => false
/-- its text -/
structure ErX (d : ErD) : Prop where
  nm : NmT d.f
  tx : ∃ (m : Str) (p1 p2 a1 a2 a3 a4 a5 a6 b1 b2 b3 b4 : Pos), defArgs d.st = erA d.f p1 p2 ∧ defBody d.st = erB d.f m a1 a2 a3 a4 a5 a6 b1 b2 b3 b4 ∧ defScope d.st = erS d.f ∧ TxT d.f m a1 a2 a3 a4 a5 a6 b1 b2 b3 b4
theorem ErD.erT {P : Program} {K : PySem.W.Frag} {mg : Str → Option Value} {d : ErD} {file : Str} (hx : ErX d) (gC : mg d.x = some (.ref (d.C K))) (su : mg "super" = none) (top : (P.main.scope.names.lookup ("super" : Str)).isSome = false) (hfile : P.main.file = file)
    (h1 : d.ok1 K = true) (h2 : d.ok2 file K = true) (hv : fnZ K (d.I K) = d.val) : ErT P K mg d.x d.f (d.C K) (d.I K) := by
  obtain ⟨c1, h⟩ := He.ba h1
  obtain ⟨c2, h⟩ := He.ba h
  obtain ⟨c3, h⟩ := He.ba h
  obtain ⟨c4, h⟩ := He.ba h
  obtain ⟨c5, h⟩ := He.ba h
  obtain ⟨c6, h⟩ := He.ba h
  obtain ⟨c7, h⟩ := He.ba h
  obtain ⟨c8, h⟩ := He.ba h
  obtain ⟨c9, h⟩ := He.ba h
  obtain ⟨c10, c11⟩ := He.ba h
  obtain ⟨m, p1, p2, a1, a2, a3, a4, a5, a6, b1, b2, b3, b4, t1, t2, t3, tx⟩ := hx.tx
  refine ⟨gC, ⟨_, _, _, _, d.b.ok, c1, He.eqO_ok c2, of_decide_eq_true c3⟩, He.eqO_ok c4, xfB_ok c5, He.eqO_ok c6, He.eqO_ok c7, of_decide_eq_true c8, c9, of_decide_eq_true c10, He.eqO_ok c11, su, top, hx.nm, ?_⟩
  unfold ErD.ok2 at h2
  unfold fnZ at hv
  cases q : K.lookup (d.I K) with
  | none =>
    rw [q] at h2
    cases h2
  | some o =>
    obtain ⟨oc, od, dt, osl⟩ := o
    rw [q] at h2 hv
    cases dt with
    | func fd =>
      obtain ⟨n1, n2, n3, n4, n5, n6, n7, n8, n9, n10, n11, n12, n13, n14, n15⟩ := fd
      have hv' : (some (n1, n2, n3, n4, n5, n6, n7.map fun c => (c.1, (0 : Addr)), n15) : He.FnW) = d.val := hv
      unfold ErD.val at hv'
      simp only [Option.some.injEq, Prod.mk.injEq] at hv'
      obtain ⟨e1, e2, e3, e4, e5, e6, e7, e8⟩ := hv'
      dsimp only at h2
      split at h2
      · rename_i c y cc
        obtain ⟨k1, h2⟩ := He.ba h2
        obtain ⟨k2, k3⟩ := He.ba h2
        have ey : y = "__class__" := by
          simp only [List.map_cons, List.map_nil, List.cons.injEq, Prod.mk.injEq, and_true] at e7
          exact e7
        subst ey
        subst e1 e2 e6 e8
        rw [t1] at e3
        rw [t2] at e4
        rw [t3] at e5
        subst e3 e4 e5
        refine ⟨_, oc, od, _, _, _, c, cc, _, osl, m, p1, p2, a1, a2, a3, a4, a5, a6, b1, b2, b3, b4, rfl, k1, tx, ?_, ?_⟩
        · split at k2
          · rename_i cl cld D csl e
            exact ⟨cl, cld, csl, by rw [e, eq_of_beq k2]⟩
          · cases k2
        · split at k3
          · rename_i ocl ocd vs ocs e
            split at k3
            · rename_i fl tk e2
              exact ⟨ocl, ocd, vs, ocs, fl, tk, e, e2, by rw [hfile]; exact k3⟩
            · cases k3
          · cases k3
      · cases h2
    | _ => cases h2
/-! ### the hook -/
abbrev LookE : Type := (PySem.W.Frag → Bool) × List He5.DefA × List ErD
def obsE (p : LookE) (K : PySem.W.Frag) : He.AlD := (p.1 K && p.2.1.all fun d => d.ok K, (p.2.1.map fun d => He5.fnA K (d.at_ K)) ++ p.2.2.map fun d => fnZ K (d.I K))
def valE (p : LookE) : He.AlD := (true, p.2.1.map He5.DefA.val ++ p.2.2.map ErD.val)
def SaysE (p : LookE) (K : PySem.W.Frag) : Prop := obsE p K = valE p
theorem SaysE.x {p : LookE} {K : PySem.W.Frag} (h : SaysE p K) : SaysX p.1 p.2.1 K := by
  have h2 : (p.2.1.map fun d => He5.fnA K (d.at_ K)) ++ (p.2.2.map fun d => fnZ K (d.I K)) = p.2.1.map He5.DefA.val ++ p.2.2.map ErD.val := congrArg (fun z : He.AlD => z.2) h
  have h0 : obsE p K = valE p := h
  have h1 : (obsE p K).1 = true := by rw [h0]; rfl
  exact Prod.ext (show (obsX p.1 p.2.1 K).1 = (He5.valA p.2.1).1 from h1) (List.append_inj h2 (by simp)).1
theorem SaysE.e {p : LookE} {K : PySem.W.Frag} (h : SaysE p K) (i : Nat) {d : ErD} (hi : p.2.2[i]? = some d := by rfl) : fnZ K (d.I K) = d.val := by
  have h2 : (p.2.1.map fun d => He5.fnA K (d.at_ K)) ++ (p.2.2.map fun d => fnZ K (d.I K)) = p.2.1.map He5.DefA.val ++ p.2.2.map ErD.val := congrArg (fun z : He.AlD => z.2) h
  have h3 := (List.append_inj h2 (by simp)).2
  have h4 : (p.2.2.map fun d => fnZ K (d.I K))[i]? = (p.2.2.map ErD.val)[i]? := by rw [h3]
  rw [List.getElem?_map, List.getElem?_map, hi] at h4
  exact Option.some.inj h4
/-- all of the heap below n but the empty tables -/
def frT (n : Nat) (g : Addr → Option Obj) : PySem.W.Frag := He.frG g ((List.range n).filter fun b => !isTab (g b))
def obsT (n : Nat) (ps : List LookE) (mk : List Str) (g : Addr → Option Obj) : List He.AlD × Bool := (ps.map fun p => obsE p (frT n g), mk.all fun x => isTab (g (tbX (frT n g) x)))
def hookT (n : Nat) (ps : List LookE) (mk : List Str) : PySem.W.Hook where
  α := List He.AlD × Bool
  obs := fun s => obsT n ps mk s.heap.get?
  val := fun _ => (ps.map valE, true)
  says := fun _ h => ∃ K : PySem.W.Frag, K.In h ∧ (∀ p ∈ ps, SaysE p K) ∧ ∀ x ∈ mk, h.get? (tbX K x) = some (PySem.W.tabObj #[])
  of := fun w s e => ⟨_, He.frG_in, fun p hp => List.map_inj_left.mp (congrArg Prod.fst e) p hp, fun x hx => by
    have e2 : (mk.all fun x => isTab (s.heap.get? (tbX (frT n s.heap.get?) x))) = true := congrArg Prod.snd e
    exact isTab_ok (List.all_eq_true.mp e2 x hx)⟩
  keeps := fun _ _ _ ⟨K, hK, c, t⟩ k => ⟨K, PySem.W.Frag.In.keeps hK k, c, fun x hx => k _ _ (t x hx)⟩
def obT (n : Nat) (ps : List LookE) (mk : List Str) (s : PySem.W.SharedT) : List He.AlD × Bool := obsT n ps mk (HandSHeadRun.getT s)
theorem obT_eq (n : Nat) (ps : List LookE) (mk : List Str) (s : PySem.W.SharedT) : obT n ps mk s = (hookT n ps mk).obs s.abs := by
  have e : HandSHeadRun.getT s = s.abs.heap.get? := funext (HandSHeadRun.getT_eq s)
  show obsT n ps mk (HandSHeadRun.getT s) = obsT n ps mk s.abs.heap.get?
  rw [e]
section
variable (r : PySem.W.OpenRow) (M : Nat)
def RunE (n : Nat) (p : LookE) : Prop := ∀ w os, (endQ r M w os).map (fun s => obsE p (frT n (HandSHeadRun.getT s))) = some (valE p)
def RunT (n : Nat) (mk : List Str) : Prop := ∀ w os, (endQ r M w os).map (fun s => mk.all fun x => isTab (HandSHeadRun.getT s (tbX (frT n (HandSHeadRun.getT s)) x))) = some true
theorem runT_of {q : Program} {loose : List Str} {n : Nat} {ps : List LookE} {mk : List Str} (h1 : RunL r M) (h2 : RunN r M q loose) (h3 : ∀ p ∈ ps, RunE r M n p) (h4 : RunT r M n mk) (w : World) : HandSHeadRun.RunEq r q (hookT n ps mk) (obT n ps mk) M loose w := by
  intro os
  obtain ⟨s, hs, l1⟩ := Option.map_eq_some_iff.mp (h1 w os)
  have l2 := h2 w os
  rw [hs] at l2
  have l4 := h4 w os
  rw [hs] at l4
  have l3 : obT n ps mk s = (ps.map valE, true) := by
    refine Prod.ext (List.map_congr_left fun p hp => ?_) (Option.some.inj l4)
    have l := h3 p hp w os
    rw [hs] at l
    exact Option.some.inj l
  have l2' := Option.some.inj l2
  show (endQ r M w os).map _ = _
  rw [hs]
  exact congrArg some (Prod.ext l1 (Prod.ext l2' l3))
end
end MN
/-! the law's draws: whatever is drawn lies in its bounds -/
namespace MN
open PySem PySem.Spec PyProof.Rows L2
abbrev potO (a b c : Int) : HO := .lst [.int a, .int b, .int c]
def Pot (H : Hp) (p : Addr) : Prop := ∃ a b c, H p = some (potO a b c)
/-- all but the pot is as it was; the pot is one still -/
structure Ex (p : Addr) (H H' : Hp) : Prop where
  keep : ∀ b o, b ≠ p → H b = some o → H' b = some o
  pot : Pot H' p
theorem Pot.upd {H : Hp} {p : Addr} {a b c : Int} : Pot (L2.upd H p (potO a b c)) p := ⟨a, b, c, upd_same⟩
theorem Ex.turn {H : Hp} {p : Addr} {a b c : Int} : Ex p H (L2.upd H p (potO a b c)) := ⟨fun b o hb e => by rw [upd_ne hb]; exact e, .upd⟩
theorem Ex.trans {p : Addr} {H H1 H2 : Hp} (a : Ex p H H1) (b : Ex p H1 H2) : Ex p H H2 := ⟨fun x o hx e => b.keep x o hx (a.keep x o hx e), b.pot⟩
theorem Ex.new {p q : Addr} {H H1 : Hp} {o : HO} (a : Ex p H H1) (hq : H1 q = none) : Ex p H (L2.upd H1 q o) := by
  obtain ⟨x, y, z, hp⟩ := a.pot
  exact ⟨fun b u hb e => by rw [upd_ne (ne_of_none (a.keep b u hb e) hq)]; exact a.keep b u hb e, x, y, z, by rw [upd_ne (ne_of_none hp hq)]; exact hp⟩
theorem Ex.same {p : Addr} {H H1 H2 : Hp} (a : Ex p H H1) (s : Same H1 H2) : Ex p H H2 := by
  obtain ⟨x, y, z, hp⟩ := a.pot
  exact ⟨fun b u hb e => s _ _ (a.keep b u hb e), x, y, z, s _ _ hp⟩
theorem Ex.refl {p : Addr} {H : Hp} (h : Pot H p) : Ex p H H := ⟨fun _ _ _ e => e, h⟩
theorem Ex.free {p q : Addr} {H H1 : Hp} (a : Ex p H H1) (hp : Pot H p) (hq : H1 q = none) : H q = none := by
  cases e : H q with
  | none => rfl
  | some o =>
    by_cases z : q = p
    · subst z
      obtain ⟨x, y, w, h⟩ := a.pot
      rw [h] at hq; cases hq
    · rw [a.keep q o z e] at hq; cases hq
/-- an object that stands, or a new one, may be changed -/
theorem Ex.put {p q : Addr} {H H1 : Hp} {o : HO} (a : Ex p H H1) (hq : H q = none) (hne : q ≠ p) : Ex p H (L2.upd H1 q o) := by
  obtain ⟨x, y, z, hp⟩ := a.pot
  exact ⟨fun b u hb e => by rw [upd_ne (ne_of_none e hq)]; exact a.keep b u hb e, x, y, z, by rw [upd_ne (Ne.symm hne)]; exact hp⟩
theorem Ex.seqL {K : PySem.W.Frag} {p : Addr} {H H' : Hp} {a : Addr} {xs : List V} (e : Ex p H H') (h : SqL K H a xs) (hne : a ≠ p) : SqL K H' a xs := by
  rcases h with (h | ⟨o, h⟩) | h
  · exact .inl (.inl (e.keep _ _ hne h))
  · exact .inl (.inr ⟨o, e.keep _ _ hne h⟩)
  · exact .inr h
theorem Ex.seqT {K : PySem.W.Frag} {p : Addr} {H H' : Hp} {a : Addr} {xs : List V} (e : Ex p H H') (h : SqT K H a xs) (hne : a ≠ p) : SqT K H' a xs := by
  rcases h with (h | ⟨o, h⟩) | h
  · exact .inl (.inl (e.keep _ _ hne h))
  · exact .inl (.inr ⟨o, e.keep _ _ hne h⟩)
  · exact .inr h
theorem atI_int {ns : List Int} {i : Int} (h0 : 0 ≤ i) (h : i < (ns.map V.int).length) : ∃ x : Int, atI (ns.map V.int) i = some (.int x) := by
  obtain ⟨j, rfl⟩ : ∃ j : Nat, i = j := ⟨i.toNat, by omega⟩
  rw [List.length_map] at h
  have hj : j < ns.length := by omega
  exact ⟨ns[j], atI_nat (by rw [List.getElem?_map, List.getElem?_eq_getElem hj]; rfl)⟩
theorem atI_some {α : Type} {xs : List α} {r : Int} (h0 : 0 ≤ r) (h1 : r < (xs.length : Int)) : ∃ v, v ∈ xs ∧ xs[r.toNat]? = some v ∧ atI xs r = some v := by
  obtain ⟨j, rfl⟩ : ∃ j : Nat, r = j := ⟨r.toNat, by omega⟩
  have hj : j < xs.length := by omega
  exact ⟨xs[j], List.getElem_mem hj, by simp [hj], atI_nat (List.getElem?_eq_getElem hj)⟩
theorem perm_erase {α : Type} : ∀ {xs : List α} {k : Nat} {y : α}, xs[k]? = some y → (y :: xs.eraseIdx k).Perm xs
  | x :: xs, 0, y, h => by
    cases (show some x = some y from h)
    exact List.Perm.refl _
  | x :: xs, k + 1, y, h => by
    have ih := perm_erase (xs := xs) (k := k) (y := y) (by simpa using h)
    exact (List.Perm.swap x y _).trans (ih.cons x)
theorem seqIx {r : Int} {n : Nat} (h0 : 0 ≤ r) (h1 : r < n) : seqIndex? r n = some r.toNat := by
  unfold seqIndex?
  simp [show ¬ r < 0 by omega, h0, h1]
theorem join_signs (cs : List Nat) : (Txt.join "" (cs.map fun c => (⟨#[c]⟩ : Str))).cps.toList = cs := by
  rw [TL.join_eq]
  show TL.tl (Str.join "" (cs.map fun c => (⟨#[c]⟩ : Str))) = cs
  rw [TL.tl_join, List.map_map]
  have h : ∀ cs : List Nat, TL.joinL [] (cs.map (TL.tl ∘ fun c => (⟨#[c]⟩ : Str))) = cs := by
    intro cs
    induction cs with
    | nil => rfl
    | cons c cs ih =>
      cases cs with
      | nil => rfl
      | cons d r =>
        show [c] ++ ([] ++ TL.joinL [] ((d :: r).map (TL.tl ∘ fun c => (⟨#[c]⟩ : Str)))) = c :: d :: r
        rw [ih]; rfl
  exact h cs
/-! ### _law_word -/
def spDip : Sp := fun vs H Q _ => ∃ p n a b c, vs = [.ref p, .int n] ∧ H p = some (potO a b c) ∧ 0 < n ∧ n < 1000000 ∧ ∀ r a' b' c', 0 ≤ r → r < n → Q (.int r) (upd H p (potO a' b' c'))
def spFilled (K : PySem.W.Frag) : Sp := fun vs H Q _ => ∃ (a : Addr) (i : Int) (ns : List Int), vs = [.ref a, .int i] ∧ SqL K H a (ns.map V.int) ∧ 0 ≤ i ∧ i < 1000 ∧ ∀ q H', H q = none → Same H H' → Pot H' q → Q (.ref q) H'
def spChoose (K : PySem.W.Frag) : Sp := fun vs H Q _ => ∃ p x, vs = [.ref p, x] ∧ Pot H p ∧ ((∃ z : Str, x = .str z ∧ 0 < z.length ∧ z.length < 100000 ∧ ∀ c a' b' c', c ∈ z.cps.toList → Q (.str ⟨#[c]⟩) (upd H p (potO a' b' c'))) ∨
  (∃ l xs, x = .ref l ∧ l ≠ p ∧ SqL K H l xs ∧ 0 < xs.length ∧ xs.length < 100000 ∧ ∀ v a' b' c', v ∈ xs → Q v (upd H p (potO a' b' c'))))
end MN
/-! all words in order: plain -/
namespace MN
open PySem
def e0 : Str := Str.ofString ""
def kids (zs : List Str) (w : Str) : List Str := zs.map fun z => w ++ z
def lvl (zs : List Str) : Nat → List Str
  | 0 => [e0]
  | n + 1 => (lvl zs n).flatMap (kids zs)
def allW (zs : List Str) : Nat → List Str
  | 0 => [e0]
  | n + 1 => allW zs n ++ lvl zs (n + 1)
def tot (m : Nat) : Nat → Nat
  | 0 => 1
  | n + 1 => tot m n + m ^ (n + 1)
theorem allW_succ (zs : List Str) (n : Nat) : allW zs (n + 1) = e0 :: (allW zs n).flatMap (kids zs) := by
  induction n with
  | zero => rfl
  | succ n ih =>
    show allW zs (n + 1) ++ lvl zs (n + 2) = _
    rw [show lvl zs (n + 2) = (lvl zs (n + 1)).flatMap (kids zs) from rfl]
    conv => lhs; rw [ih]
    rw [List.cons_append, ← List.flatMap_append]
    rfl
theorem lvl_length (zs : List Str) (n : Nat) : (lvl zs n).length = zs.length ^ n := by
  induction n with
  | zero => rfl
  | succ n ih =>
    show ((lvl zs n).flatMap (kids zs)).length = _
    rw [List.length_flatMap]
    have : ((lvl zs n).map fun a => (kids zs a).length) = (lvl zs n).map fun _ => zs.length := by
      apply List.map_congr_left
      intro a _
      simp [kids]
    have s : ∀ l : List Str, (l.map fun _ => zs.length).sum = l.length * zs.length := by
      intro l
      induction l with
      | nil => simp
      | cons a l ih2 => rw [List.map_cons, List.sum_cons, ih2, List.length_cons, Nat.succ_mul]; omega
    rw [this, s, ih, Nat.pow_succ]
theorem allW_length (zs : List Str) (n : Nat) : (allW zs n).length = tot zs.length n := by
  induction n with
  | zero => rfl
  | succ n ih =>
    show (allW zs n ++ lvl zs (n + 1)).length = tot zs.length n + zs.length ^ (n + 1)
    rw [List.length_append, ih, lvl_length]
theorem flat_get {α β : Type} (f : α → Str → β) (zs : List Str) (hm : 0 < zs.length) : ∀ (l : List α) (i : Nat), (l.flatMap fun w => zs.map (f w))[i]? = (l[i / zs.length]?).bind fun w => (zs[i % zs.length]?).map (f w) := by
  intro l
  induction l with
  | nil => intro i; simp
  | cons a l ih =>
    intro i
    rw [List.flatMap_cons]
    by_cases h : i < zs.length
    · rw [List.getElem?_append_left (by simpa using h), Nat.div_eq_of_lt h, Nat.mod_eq_of_lt h]
      simp
    · have h' : zs.length ≤ i := Nat.le_of_not_lt h
      rw [List.getElem?_append_right (by simpa using h'), List.length_map, ih]
      have e1 : i / zs.length = (i - zs.length) / zs.length + 1 := by
        rw [Nat.div_eq i zs.length, if_pos ⟨hm, h'⟩]
      have e2 : (i - zs.length) % zs.length = i % zs.length := (Nat.mod_eq_sub_mod h').symm
      rw [e1, e2, List.getElem?_cons_succ]
theorem allW_next {zs : List Str} (hm : 0 < zs.length) {n i : Nat} : (allW zs (n + 1))[i + 1]? = ((allW zs n)[i / zs.length]?).bind fun w => (zs[i % zs.length]?).map fun z => w ++ z := by
  rw [allW_succ, List.getElem?_cons_succ]
  exact flat_get (fun w z => w ++ z) zs hm _ _
theorem allW_zero (zs : List Str) (n : Nat) : (allW zs n)[0]? = some e0 := by
  cases n with
  | zero => rfl
  | succ n => rw [allW_succ]; rfl
/-- the law's own number: k rounds -/
def numW (zs : List Str) : Nat → Nat → Str → Str
  | 0, _, acc => acc
  | k + 1, i, acc => if 0 < i then numW zs k ((i - 1) / zs.length) ((zs[(i - 1) % zs.length]?).getD e0 ++ acc) else numW zs k i acc
theorem numW_zero (zs : List Str) (k : Nat) (acc : Str) : numW zs k 0 acc = acc := by
  induction k with
  | zero => rfl
  | succ k ih => show (if 0 < 0 then _ else _) = _; rw [if_neg (Nat.lt_irrefl 0)]; exact ih
theorem numW_ok {zs : List Str} (hm : 0 < zs.length) : ∀ (n k i : Nat) (w acc : Str), n ≤ k → (allW zs n)[i]? = some w → numW zs k i acc = w ++ acc := by
  intro n
  induction n with
  | zero =>
    intro k i w acc _ h
    match i, h with
    | 0, h =>
      have : w = e0 := (Option.some.inj h).symm
      rw [numW_zero, this]
      exact (Str.empty_append acc).symm
  | succ n ih =>
    intro k i w acc hk h
    match k, hk with
    | k + 1, hk =>
      match i, h with
      | 0, h =>
        rw [allW_zero] at h
        have : w = e0 := (Option.some.inj h).symm
        rw [numW_zero, this]
        exact (Str.empty_append acc).symm
      | i + 1, h =>
        rw [allW_next hm] at h
        obtain ⟨v, h1, h2⟩ := Option.bind_eq_some_iff.mp h
        obtain ⟨z, h3, h4⟩ := Option.map_eq_some_iff.mp h2
        show (if 0 < i + 1 then numW zs k ((i + 1 - 1) / zs.length) ((zs[(i + 1 - 1) % zs.length]?).getD e0 ++ acc) else _) = _
        rw [if_pos (Nat.succ_pos i), Nat.add_sub_cancel, h3, ih k _ v _ (by omega) h1, ← h4]
        exact (Str.append_assoc v z acc).symm
theorem allW_take (zs : List Str) (n : Nat) : (allW zs (n + 1)).take (tot zs.length n) = allW zs n := by
  show (allW zs n ++ lvl zs (n + 1)).take _ = _
  rw [← allW_length zs n]
  exact List.take_left' rfl
/-- ascending signs -/
structure SgnOk (zs : List Str) : Prop where
  asc : zs.Pairwise fun a b => a.cps.toList < b.cps.toList
  one : ∀ z ∈ zs, ∃ c ∈ ("abcde" : Str).cps.toList, z = ⟨#[c]⟩
  pos : 0 < zs.length
  le : zs.length ≤ 5
theorem cpsL_append (a b : Str) : (a ++ b).cps.toList = a.cps.toList ++ b.cps.toList := by
  show (a.cps ++ b.cps).toList = _
  simp
theorem strLen_app (a b : Str) : (a ++ b).length = a.length + b.length := Str.length_append a b
theorem lex_same (a : List Nat) {s t : List Nat} (h : s < t) : a ++ s < a ++ t := by
  induction a with
  | nil => exact h
  | cons x a ih => exact List.cons_lt_cons_iff.mpr (.inr ⟨rfl, ih⟩)
theorem lex_app : ∀ {a b : List Nat} {s t : List Nat}, a.length = b.length → a < b → a ++ s < b ++ t
  | [], [], _, _, _, h => absurd h (List.lt_irrefl _)
  | x :: a, y :: b, s, t, hl, h => by
    rcases List.cons_lt_cons_iff.mp h with h | ⟨h1, h2⟩
    · exact List.cons_lt_cons_iff.mpr (.inl h)
    · exact List.cons_lt_cons_iff.mpr (.inr ⟨h1, lex_app (by simpa using hl) h2⟩)
theorem one_len {zs : List Str} (h : SgnOk zs) {z : Str} (hz : z ∈ zs) : z.length = 1 := by
  obtain ⟨c, _, rfl⟩ := h.one z hz
  rfl
theorem lvl_len {zs : List Str} (h : SgnOk zs) : ∀ (n : Nat) (w : Str), w ∈ lvl zs n → w.length = n := by
  intro n
  induction n with
  | zero => intro w hw; rw [List.mem_singleton.mp hw]; rfl
  | succ n ih =>
    intro w hw
    obtain ⟨v, hv, hw⟩ := List.mem_flatMap.mp hw
    obtain ⟨z, hz, rfl⟩ := List.mem_map.mp hw
    rw [strLen_app, ih v hv, one_len h hz]
theorem lvl_asc {zs : List Str} (h : SgnOk zs) (n : Nat) : (lvl zs n).Pairwise fun a b => a.cps.toList < b.cps.toList := by
  induction n with
  | zero => exact List.pairwise_singleton _ _
  | succ n ih =>
    show ((lvl zs n).flatMap (kids zs)).Pairwise _
    refine List.pairwise_flatMap.mpr ⟨fun a ha => ?_, ?_⟩
    · refine List.pairwise_map.mpr (h.asc.imp fun {s t} hst => ?_)
      rw [cpsL_append, cpsL_append]
      exact lex_same _ hst
    · refine ih.imp_of_mem fun {a b} ha hb hab x hx y hy => ?_
      obtain ⟨s, hs, rfl⟩ := List.mem_map.mp hx
      obtain ⟨t, ht, rfl⟩ := List.mem_map.mp hy
      rw [cpsL_append, cpsL_append]
      refine lex_app ?_ hab
      have h1 := lvl_len h n a ha
      have h2 := lvl_len h n b hb
      have e1 : a.cps.toList.length = a.length := by simp [Str.length]
      have e2 : b.cps.toList.length = b.length := by simp [Str.length]
      omega
theorem allW_len {zs : List Str} (h : SgnOk zs) : ∀ (n : Nat) (w : Str), w ∈ allW zs n → w.length ≤ n := by
  intro n
  induction n with
  | zero => intro w hw; rw [List.mem_singleton.mp hw]; exact Nat.le_refl _
  | succ n ih =>
    intro w hw
    rcases List.mem_append.mp hw with hw | hw
    · have := ih w hw; omega
    · have := lvl_len h _ w hw; omega
theorem allW_asc {zs : List Str} (h : SgnOk zs) (n : Nat) : (allW zs n).Pairwise ahead := by
  induction n with
  | zero => exact List.pairwise_singleton _ _
  | succ n ih =>
    refine List.pairwise_append.mpr ⟨ih, (lvl_asc h (n + 1)).imp_of_mem fun {a b} ha hb hab => .inr ⟨?_, hab⟩, fun a ha b hb => .inl ?_⟩
    · rw [lvl_len h _ a ha, lvl_len h _ b hb]
    · have h1 := allW_len h n a ha
      have h2 := lvl_len h _ b hb
      omega
theorem lvl_word {zs : List Str} (h : SgnOk zs) : ∀ (n : Nat) (w : Str), w ∈ lvl zs n → isWordS w = true := by
  intro n
  induction n with
  | zero => intro w hw; rw [List.mem_singleton.mp hw]; rfl
  | succ n ih =>
    intro w hw
    obtain ⟨v, hv, hw⟩ := List.mem_flatMap.mp hw
    obtain ⟨z, hz, rfl⟩ := List.mem_map.mp hw
    obtain ⟨c, hc, rfl⟩ := h.one z hz
    unfold isWordS
    rw [cpsL_append, List.all_append, Bool.and_eq_true]
    refine ⟨ih v hv, ?_⟩
    simp [sgn, hc]
theorem allW_word {zs : List Str} (h : SgnOk zs) : ∀ (n : Nat) (w : Str), w ∈ allW zs n → isWordS w = true := by
  intro n
  induction n with
  | zero => intro w hw; rw [List.mem_singleton.mp hw]; rfl
  | succ n ih =>
    intro w hw
    rcases List.mem_append.mp hw with hw | hw
    · exact ih w hw
    · exact lvl_word h _ w hw
theorem ord_allW {zs ws : List Str} (h : SgnOk zs) {n : Nat} (hp : ws.Perm (allW zs n)) : ord ws = allW zs n :=
  sorted_one (ord_sorted ws) (allW_asc h n) fun x => mem_ord.trans hp.mem_iff
theorem tot_le {m n : Nat} (hm : m ≤ 5) (hn : n ≤ 8) : tot m n ≤ 488281 := by
  have mono : ∀ n, tot m n ≤ tot 5 n := by
    intro n
    induction n with
    | zero => exact Nat.le_refl _
    | succ n ih => exact Nat.add_le_add ih (Nat.pow_le_pow_left hm _)
  have up : ∀ k, tot 5 n ≤ tot 5 (n + k) := by
    intro k
    induction k with
    | zero => exact Nat.le_refl _
    | succ k ih => exact Nat.le_trans ih (Nat.le_add_right _ _)
  have := up (8 - n)
  rw [show n + (8 - n) = 8 by omega] at this
  exact Nat.le_trans (mono n) (Nat.le_trans this (by decide))
abbrev strsV (zs : List Str) : List L2.V := zs.map L2.V.str
end MN
/-! the drawn signs; slices: plain -/
namespace MN
open PySem PySem.Spec PyProof.Rows L2
def one (c : Nat) : Str := ⟨#[c]⟩
theorem signsOf_one (z : Str) : signsOf z = (z.cps.toList.map one).map V.str := by
  unfold signsOf
  rw [List.map_map]; rfl
def strOf : V → Str
  | .str z => z
  | _ => e0
theorem perm_strsP {ys : List V} {zs : List Str} (h : ys.Perm (strsV zs)) : ∃ ws : List Str, ys = strsV ws ∧ ws.Perm zs := by
  refine ⟨ys.map strOf, ?_, ?_⟩
  · show ys = (ys.map strOf).map V.str
    rw [List.map_map]
    have : ys.map (V.str ∘ strOf) = ys.map id := by
      apply List.map_congr_left
      intro y hy
      obtain ⟨z, _, rfl⟩ := List.mem_map.mp (h.mem_iff.mp hy)
      rfl
    rw [this, List.map_id]
  · have := h.map strOf
    rw [List.map_map] at this
    have e : zs.map (strOf ∘ V.str) = zs.map id := List.map_congr_left fun _ _ => rfl
    rw [e, List.map_id] at this
    exact this
theorem ltCps_one (c d : Nat) : ltCps (one c).cps.toList (one d).cps.toList = decide (c < d) := by
  show (decide (c < d) || (c == d && false)) = _
  simp
theorem rising1 : ∀ (cs : List Nat) (p : Nat), risingS (one p) (cs.map one) = true → (∀ c ∈ cs, p ≤ c) ∧ cs.Pairwise (· ≤ ·)
  | [], _, _ => ⟨fun _ h => (by cases h), List.Pairwise.nil⟩
  | c :: cs, p, h => by
    have h' : (!ltCps (one c).cps.toList (one p).cps.toList && risingS (one c) (cs.map one)) = true := h
    rw [Bool.and_eq_true, ltCps_one] at h'
    obtain ⟨h1, h2⟩ := h'
    have hpc : p ≤ c := by simpa using h1
    obtain ⟨h3, h4⟩ := rising1 cs c h2
    refine ⟨fun d hd => ?_, .cons h3 h4⟩
    rcases List.mem_cons.mp hd with rfl | hd
    · exact hpc
    · exact Nat.le_trans hpc (h3 d hd)
theorem sorted1 : ∀ (cs : List Nat), sortedS (cs.map one) = true → cs.Pairwise (· ≤ ·)
  | [], _ => .nil
  | c :: cs, h => by
    obtain ⟨h1, h2⟩ := rising1 cs c h
    exact .cons h1 h2
/-- some of the five signs, sorted -/
theorem sgn_drawn {ws zs : List Str} {k : Nat} (hw : ws.Perm (("abcde" : Str).cps.toList.map one)) (hk : 0 < k) (hz : zs.Perm (ws.take k)) (hs : sortedS zs = true) : SgnOk zs := by
  have hnd : (("abcde" : Str).cps.toList.map one).Nodup := by decide +kernel
  have hws : ws.Nodup := hw.nodup_iff.mpr hnd
  have hzs : zs.Nodup := hz.nodup_iff.mpr (hws.sublist (List.take_sublist _ _))
  have hmem : ∀ z ∈ zs, ∃ c ∈ ("abcde" : Str).cps.toList, z = one c := fun z hz' => by
    have h1 := List.mem_of_mem_take (hz.mem_iff.mp hz')
    obtain ⟨c, hc, rfl⟩ := List.mem_map.mp (hw.mem_iff.mp h1)
    exact ⟨c, hc, rfl⟩
  have hl5 : ws.length = 5 := hw.length_eq
  have hzl : zs.length = min k 5 := by rw [hz.length_eq, List.length_take, hl5]
  obtain ⟨cs, rfl⟩ : ∃ cs : List Nat, zs = cs.map one := by
    refine ⟨zs.map fun z => z.cps.toList.headD 0, ?_⟩
    rw [List.map_map]
    have : zs.map (one ∘ fun z => z.cps.toList.headD 0) = zs.map id := by
      apply List.map_congr_left
      intro z hz'
      obtain ⟨c, _, rfl⟩ := hmem z hz'
      rfl
    rw [this, List.map_id]
  refine ⟨?_, hmem, by omega, by omega⟩
  have h1 := sorted1 cs hs
  have h2 : cs.Pairwise (· ≠ ·) := by
    have h3 : (cs.map one).Pairwise (· ≠ ·) := hzs
    rw [List.pairwise_map] at h3
    exact h3.imp fun {a b} h e => h (by rw [e])
  rw [List.pairwise_map]
  refine List.Pairwise.imp₂ (fun a b h h' => ?_) h1 h2
  show [a] < [b]
  exact List.cons_lt_cons_iff.mpr (.inl (Nat.lt_of_le_of_ne h h'))
theorem sgn_casesP {c : Nat} (h : sgn c = true) : c = 97 ∨ c = 98 ∨ c = 99 ∨ c = 100 ∨ c = 101 := by
  have h1 : c ∈ ("abcde" : Str).cps.toList := of_decide_eq_true h
  have h2 : ("abcde" : Str).cps.toList = [97, 98, 99, 100, 101] := by decide +kernel
  rw [h2] at h1
  simpa using h1
theorem word_okP {z : Str} (h : isWordS z = true) : PyData.strOk z = true := by
  unfold PyData.strOk
  rw [Array.all_eq_true_iff_forall_mem]
  intro c hc
  have := List.all_eq_true.mp h c (by simpa using hc)
  rcases sgn_casesP this with q | q | q | q | q <;> subst q <;> decide
theorem words_shapeP {zs : List Str} (h : ∀ z ∈ zs, isWordS z = true) : ∀ d ∈ zs.map PyData.str, d.canLay0 = true ∧ d.depth ≤ 60 := fun d hd => by
  obtain ⟨z, hz, rfl⟩ := List.mem_map.mp hd
  exact ⟨by rw [PyData.canLay0]; exact word_okP (h z hz), by rw [PyData.depth]; omega⟩
theorem cut_to (zs : List Str) {k : Int} (hk : 0 ≤ k) : cutV (strsV zs) none (some k) = strsV (zs.take k.toNat) := by
  have e : HT.sIx (strsV zs).length (strsV zs).length (some k) = min k.toNat zs.length := by
    show (if k < 0 then (k + ((strsV zs).length : Int)).toNat else min k.toNat (strsV zs).length) = _
    rw [if_neg (by omega), List.length_map]
  unfold cutV
  rw [e]
  show ((strsV zs).drop 0).take (min k.toNat zs.length - 0) = _
  rw [List.drop_zero, Nat.sub_zero, ← List.map_take]
  congr 1
  by_cases h : k.toNat ≤ zs.length
  · rw [Nat.min_eq_left h]
  · rw [Nat.min_eq_right (by omega), List.take_length, List.take_of_length_le (by omega)]
theorem cut_parts (zs : List Str) : ∃ m, cutV (strsV zs) (some (-30)) none = strsV (zs.drop m) ∧ cutV (strsV zs) none (some (-30)) = strsV (zs.take m) := by
  have e : ∀ d, HT.sIx (strsV zs).length d (some (-30)) = zs.length - 30 := fun d => by
    show (if (-30 : Int) < 0 then ((-30) + ((strsV zs).length : Int)).toNat else min (-30 : Int).toNat (strsV zs).length) = _
    rw [if_pos (by decide), List.length_map]
    omega
  refine ⟨zs.length - 30, ?_, ?_⟩
  · unfold cutV
    rw [e]
    show ((strsV zs).drop (zs.length - 30)).take ((strsV zs).length - (zs.length - 30)) = _
    rw [← List.map_drop, List.take_of_length_le]
    rw [List.length_map, List.length_drop, List.length_map]
    omega
  · unfold cutV
    rw [e]
    show ((strsV zs).drop 0).take (zs.length - 30 - 0) = _
    rw [List.drop_zero, Nat.sub_zero, ← List.map_take]
theorem shW {zs : List Str} (h : ∀ z ∈ zs, isWordS z = true) : SeqAt.shaped (.list (zs.map PyData.str)) = true := shapedL (words_shapeP h)
theorem shWT {zs : List Str} (h : ∀ z ∈ zs, isWordS z = true) : SeqAt.shaped (.tuple (zs.map PyData.str)) = true := shapedT (words_shapeP h)
theorem greatest_at {m : Nat} (h1 : 0 < m) (h5 : m ≤ 5) : ∃ g : Nat, atI [V.int 9, .int 9, .int 6, .int 5, .int 5] ((m : Int) - 1) = some (.int (g : Nat)) ∧ 0 < g ∧ g ≤ 9 ∧ ∀ n, n < g → tot m n ≤ 1000 := by
  have hm : m = 1 ∨ m = 2 ∨ m = 3 ∨ m = 4 ∨ m = 5 := by omega
  rcases hm with rfl | rfl | rfl | rfl | rfl
  · exact ⟨9, rfl, by decide, by decide, by decide⟩
  · exact ⟨9, rfl, by decide, by decide, by decide⟩
  · exact ⟨6, rfl, by decide, by decide, by decide⟩
  · exact ⟨5, rfl, by decide, by decide, by decide⟩
  · exact ⟨5, rfl, by decide, by decide, by decide⟩
end MN
/-! list(text) -/
namespace MN
open PySem PySem.Spec PyProof.Rows L2
section
variable {X : Cx}
/-- list(text) -/
theorem call_listS (hc : X.calm = true) : CallR X (.type "list") (fun xs H Q => ∃ z : Str, xs = [.str z] ∧ z.length ≤ 1000000 ∧ ∀ l, H l = none → Q (.ref l) (upd H l (.lst (signsOf z)))) := by
  intro pins s σ H xs us Q I r h
  obtain ⟨z, rfl, hz, q⟩ := h
  obtain ⟨u, rfl, t, rfl⟩ := vals1 r
  have hz1 : z.cps.size ≤ sizeLine := Nat.le_trans hz (by decide)
  refine PySem.call_list_str (hn := hz1) (I.ok.hd hc) z t fun h' tk acc' c' hk hS hacc => ?_
  have rv : Vals (signsOf z) acc'.toList := by
    have e := vals_of_get acc'.toList (fun j => V.str ⟨#[(z.cps[j]?).getD 0]⟩) fun j u hj => by
      obtain ⟨c, uu, h1, h2⟩ := hacc.2 j u (by simpa using hj)
      rw [h1, h2]
      exact ⟨_, rfl⟩
    have e2 : (List.range acc'.toList.length).map (fun j => V.str ⟨#[(z.cps[j]?).getD 0]⟩) = signsOf z := by
      apply List.ext_getElem?
      intro i
      unfold signsOf
      rw [List.getElem?_map, List.getElem?_map]
      have hl : acc'.toList.length = z.cps.size := by simpa using hacc.1
      by_cases hi : i < z.cps.size
      · rw [List.getElem?_range (by omega)]
        simp [hi]
      · rw [List.getElem?_eq_none (by simpa [hl] using Nat.le_of_not_lt hi), List.getElem?_eq_none (by simpa using Nat.le_of_not_lt hi)]
        rfl
    rw [e2] at e
    exact e
  refine ⟨.ref s.heap.objs.size, _, I.laid (t' := tk) hk (Nat.le_refl _) (show ObjOk X.prog X.w _ h' _ (.lst (signsOf z)) from ⟨?_, acc'.toList, c', rv, hS⟩), rfl, q _ (I.hok.fresh (Nat.le_refl _))⟩
  have : (signsOf z).length = z.cps.size := by simp [signsOf]
  omega
def ItemsL (K : PySem.W.Frag) (H : Hp) (x : V) (xs : List V) : Prop := (∃ l, x = .ref l ∧ SqL K H l xs) ∨ ∃ z : Str, x = .str z ∧ z.length ≤ 1000000 ∧ xs = signsOf z
theorem call_listI (hc : X.calm = true) : CallR X (.type "list") (fun vs H Q => ∃ x xs, vs = [x] ∧ ItemsL X.K H x xs ∧ ∀ l, H l = none → Q (.ref l) (upd H l (.lst xs))) := by
  intro pins s σ H vs us Q I r h
  obtain ⟨x, xs, rfl, hx, q⟩ := h
  rcases hx with ⟨l, rfl, hl⟩ | ⟨z, rfl, hz, rfl⟩
  · exact call_list_of pins s σ H _ us Q I r ⟨l, xs, rfl, .inl hl, q⟩
  · exact call_listS hc pins s σ H _ us Q I r ⟨z, rfl, hz, q⟩
end
section
/-- what is shuffled: a list, or a text's signs -/
def Items (K : PySem.W.Frag) (H : Hp) (p : Addr) (x : V) (xs : List V) : Prop := (∃ l, x = .ref l ∧ l ≠ p ∧ SqL K H l xs) ∨ (∃ z : Str, x = .str z ∧ xs = signsOf z)
theorem signs_len (z : Str) : (signsOf z).length = z.length := by simp [signsOf, Str.length]
end
end MN
/-! dicts whose keys are tuples: list(d.items()), dict(pairs), the walk over d.items() -/
namespace MN
open PySem PySem.Spec PyProof.Rows L2
/-- things laid over a tracked heap -/
def overH (H : Hp) (l : List (Addr × HO)) : Hp := fun b => match l.lookup b with | some o => some o | none => H b
theorem over_in {H : Hp} {l : List (Addr × HO)} {b : Addr} {o : HO} (h : l.lookup b = some o) : overH H l b = some o := by unfold overH; rw [h]
theorem over_out {H : Hp} {l : List (Addr × HO)} {b : Addr} (h : l.lookup b = none) : overH H l b = H b := by unfold overH; rw [h]
theorem lookup_zip {as : List Addr} {os : List HO} (nd : as.Nodup) {i : Nat} {a : Addr} {o : HO} (h1 : as[i]? = some a) (h2 : os[i]? = some o) : (as.zip os).lookup a = some o := by
  induction as generalizing os i with
  | nil => cases h1
  | cons x as ih =>
    obtain ⟨hx, nd'⟩ := List.nodup_cons.mp nd
    cases os with
    | nil => cases h2
    | cons y os =>
      cases i with
      | zero =>
        have e1 : x = a := Option.some.inj h1
        have e2 : y = o := Option.some.inj h2
        subst e1 e2
        rw [List.zip_cons_cons, List.lookup_cons_self]
      | succ i =>
        have h1' : as[i]? = some a := h1
        have hne : (a == x) = false := beq_eq_false_iff_ne.mpr fun e => hx (by rw [← e]; exact List.mem_of_getElem? h1')
        rw [List.zip_cons_cons, List.lookup_cons, hne]
        exact ih nd' h1' h2
theorem lookup_mem {α β : Type} [BEq α] [LawfulBEq α] : ∀ {l : List (α × β)} {a : α} {b : β}, l.lookup a = some b → (a, b) ∈ l
  | (x, y) :: l, a, b, h => by
    rw [List.lookup_cons] at h
    by_cases e : a = x
    · subst e
      rw [beq_self_eq_true] at h
      cases h
      exact List.mem_cons_self
    · rw [beq_eq_false_iff_ne.mpr e] at h
      exact List.mem_cons_of_mem _ (lookup_mem h)
theorem zip_of {as : List Addr} {os : List HO} {a : Addr} {o : HO} (h : (as.zip os).lookup a = some o) : ∃ i : Nat, as[i]? = some a ∧ os[i]? = some o := by
  have hm := lookup_mem h
  obtain ⟨i, hi⟩ := List.mem_iff_getElem?.mp hm
  obtain ⟨h1, h2⟩ := List.getElem?_zip_eq_some.mp hi
  exact ⟨i, h1, h2⟩
section
variable {X : Cx} {pins : List (Addr × Obj)} {σ : L2.St} {H : Hp} {s : Shared}
theorem Inv_over {l : List (Addr × HO)} {h' : Heap} {tk : Nat} (I : L2.Inv X pins σ H s) (hk : ∀ b o, s.heap.get? b = some o → h'.get? b = some o) (fresh : ∀ b o, l.lookup b = some o → s.heap.objs.size ≤ b)
    (ok : ∀ b o, l.lookup b = some o → ObjOk X.prog X.w (overH H l) h' b o) : L2.Inv X pins σ (overH H l) { s with heap := h', toks := tk } := by
  have up : ∀ b u, H b = some u → overH H l b = some u := fun b u e => by
    cases q : l.lookup b with
    | none => rw [over_out q]; exact e
    | some o => rw [I.hok.fresh (fresh b o q)] at e; cases e
  refine I.call' (ch := []) rfl ⟨fun b o q _ _ _ => hk b o q, fun b o q _ _ _ => ⟨o.slots, hk b o q⟩, fun b o q n _ => ?_, fun b o q _ => ⟨o, hk b o q⟩, fun b xs q => up b _ q, fun b o u q => up b _ q, fun b ps q => ⟨#[], by rw [up b _ q]; simp⟩⟩ (fun b u q => ?_) I.bare fun b z => by simp at z
  · cases z : l.lookup b with
    | none => rw [over_out z]; exact n
    | some u => exact absurd (Nat.lt_of_lt_of_le (Heap.lt_size q) (fresh b u z)) (Nat.lt_irrefl _)
  · cases z : l.lookup b with
    | none =>
      rw [over_out z] at q
      exact (I.hok b u q).stay (fun d v _ y => hk d v y) (fun d y => up d _ y) fun d xs y => up d _ y
    | some o =>
      rw [over_in z] at q
      cases q
      exact ok b _ z
end
/-- each t is the tuple of a key and its value -/
def PairsT (H : Hp) : List Addr → List (List Key × V) → Prop := Paired fun t kv => ∃ q, H t = some (.tup [.ref q, kv.2]) ∧ H q = some (.tup (kv.1.map kV))
/-! ### list(d.items()) -/
section
variable {prog : Program} {w : World} {A : Around} {E : Value → Shared → Prop} {s : Shared} {r d : Addr} {es : Array DictEntry} {ep : Nat}
theorem list_items_raw {Q : Value → Shared → Prop} (hh : A.handled = none) (hv : s.heap.IsItemsView r d) (hm : DT.Raw s.heap d es ep) (hn : es.size ≤ sizeLine)
    (hQ : ∀ h' tk acc c as, (∀ b o, s.heap.get? b = some o → h'.get? b = some o) → h'.get? s.heap.objs.size = some { cls := .type "list", dict := none, data := .seq acc c, slots := #[] } → as.length = es.size → DT.Made es s.heap.objs.size h' as →
      acc.toList = as.map Value.ref → Q (.ref s.heap.objs.size) { s with heap := h', toks := tk }) :
    wpAny (model prog w) A (call (.type "list") [.ref r]) Q E s := by
  refine callType_codes (Q₁ := fun obj s₁ => obj = .ref s.heap.objs.size ∧ s₁ = { s with heap := s.heap.push { cls := .type "list", data := .seq #[] } }) PySem.F.called_list (PySem.F.typeCall_list_1 _) PySem.F.entry_list_init
    (code_list_new _ ⟨rfl, rfl⟩) fun obj s₁ h₁ => ?_
  obtain ⟨rfl, rfl⟩ := h₁
  have hS : (s.heap.push { cls := .type "list", data := .seq #[] }).get? s.heap.objs.size = some { cls := .type "list", data := .seq #[] } := Heap.get?_push_size _ rfl
  have hr : r < s.heap.objs.size := let ⟨_, ho, _⟩ := hv; Heap.lt_size ho
  have hd : d < s.heap.objs.size := hm.lt
  refine ⟨⟨_, hS, rfl⟩, PySem.F.args_list_init_2 _ _, ?_⟩
  show wpAny _ A.in1.in1 (do let old ← Builtin.List.listItems (.ref s.heap.objs.size); Builtin.List.listUpdate (.ref s.heap.objs.size) (fun _ => #[]); letGo old.toList.reverse; Builtin.List.listExtendWith (.ref s.heap.objs.size) (.ref r) .none) _ _ _
  refine wpAny_bind ?_
  unfold Builtin.List.listItems
  refine wpAny_bind (wpAny_seqItems hS rfl (wpAny_pure ?_))
  show wpAny _ _ (updateSeq s.heap.objs.size (fun _ => #[]) >>= fun _ => letGo (#[] : Array Value).toList.reverse >>= fun _ => Builtin.List.listExtendWith (.ref s.heap.objs.size) (.ref r) .none) _ _ _
  refine wpAny_bind (wpAny_updateSeq hS rfl ?_)
  have hS₂ := Heap.get?_update_self (Obj.mapSeq (fun _ => (#[] : Array Value))) hS rfl
  have oth : ∀ b o, b ≠ s.heap.objs.size → (s.heap.push { cls := .type "list", data := .seq #[] }).get? b = some o → ((s.heap.push { cls := .type "list", data := .seq #[] }).update s.heap.objs.size (Obj.mapSeq (fun _ => (#[] : Array Value)))).get? b = some o :=
    fun b o hb e => (Heap.get?_update_other _ _ (Ne.symm hb)).trans e
  have up : ∀ b o, s.heap.get? b = some o → ((s.heap.push { cls := .type "list", data := .seq #[] }).update s.heap.objs.size (Obj.mapSeq (fun _ => (#[] : Array Value)))).get? b = some o := fun b o e => oth b o (Nat.ne_of_lt (Heap.lt_size e)) (Heap.get?_push_of_some _ e)
  refine wpAny_bind (wpAny_letGo ?_)
  refine DT.extI (A := A.in1) (es := es) (ep := ep) hh (let ⟨o, ho, x⟩ := hv; ⟨o, up r o ho, x⟩) (hm.at' fun o e => up d o e) _ (Nat.ne_of_gt hr) (Nat.ne_of_lt hd) .none _ hS₂ (fun h' tk acc c as hk hS' hl hG hacc => ?_) hn
  exact ⟨rfl, hQ h' tk acc c as (fun b o e => hk b o (Nat.ne_of_lt (Heap.lt_size e)) (up b o e)) hS' hl (hG.low (Nat.le_of_lt (Heap.lt_size hS₂))) hacc⟩
end
def rItemsLT : V → Hp → VK → Prop := fun x H Q => ∃ (d : Addr) (kvs : List (List Key × V)), x = .ref d ∧ H d = some (.dT kvs) ∧
  ∀ (H' : Hp) (p : Addr) (ts : List Addr), Same H H' → H p = none → H' p = some (.lst (ts.map V.ref)) → PairsT H' ts kvs → Q (.ref p) H'
def tListItemsT (te : TE) : TE := fun σ H Q => te σ H fun x H1 => rItemsLT x H1 Q
theorem paired_of {α β : Type} {F : α → β → Prop} : ∀ {xs : List α} {ys : List β}, xs.length = ys.length → (∀ (i : Nat) (x : α) (y : β), xs[i]? = some x → ys[i]? = some y → F x y) → Paired F xs ys
  | [], [], _, _ => .nil
  | [], _ :: _, h, _ => by cases h
  | _ :: _, [], h, _ => by cases h
  | x :: xs, y :: ys, h, hF => .cons (hF 0 x y rfl rfl) (paired_of (Nat.succ.inj h) fun i a b h1 h2 => hF (i + 1) a b h1 h2)
section
variable {X : Cx} {e : Expr} {te : TE} {p apos cpos pos : Pos}
theorem pe_listItemsT (hc : X.calm = true) (he : PE X e te) (hg : Gl X "list") (hm : X.mg "list" = none) (hv : bootBuiltins "list" = some (.type "list")) (hbase : attributeBase e "items" X.env (eval e X.env) = eval e X.env := by rfl) (hline : (apos.endLine == cpos.line) = true := by rfl)
    (hs : starEach [.Call (.Attribute e "items" apos) [] [] cpos] X.env = (false, eval (.Call (.Attribute e "items" apos) [] [] cpos) X.env) :: starEach [] X.env := by rfl) :
    PE X (.Call (.Name "list" p) [.Call (.Attribute e "items" apos) [] [] cpos] [] pos) (tListItemsT te) := by
  refine ⟨fun pins s σ H Q I hq => ?_⟩
  refine wpAny_Call_Name_kw (ld_blt I hg hm hv ?_)
  refine PyProof.Rows.callWith_type1 ?_ hs rfl
  rw [hs]
  show wpAny _ _ (spliced ((false, eval (.Call (.Attribute e "items" apos) [] [] cpos) X.env) :: backTo pos (starEach [] X.env))) _ _ s
  refine Calls.spliced_cons ?_
  refine wpAny_Call_method (T := "dict") (id := "dict.items") hbase rfl hline F.plainAttrs_dict F.slot_dict_items F.type_dict_items (thn (he.run pins s σ H _ I hq) fun u s1 ⟨x, H1, I1, rx, d, kvs, ex, hd, q⟩ => ?_)
  subst ex
  obtain rfl : u = Value.ref d := rx
  obtain ⟨z, hs0, xs, rel, o, es, ep, ho, hx, hdat, hes, his, hnd⟩ := dt_of I1.hok hd
  have raw : DT.Raw s1.heap d es ep := ⟨o, ho, hx, hdat⟩
  have lx : kvs.length = xs.length := Paired.length rel
  have le : es.size = xs.length := size_of_entries hes
  have I2 : L2.Inv X pins σ H1 { s1 with heap := s1.heap.push { cls := .type "dict_items", data := .fields #[.ref d] } } := I1.kept (t' := s1.toks) fun b ob q => Heap.get?_push_of_some _ q
  refine ⟨raw.typeIs, dictOfH_noDict (knd := tupleKind (mixKind X.prog X.w)) ⟨o, es, ep, ho, hx, hdat, hes, his, hnd⟩, ?_⟩
  show wpAny _ _ (callWith cpos (.builtin "dict.items") [.ref d] [] []) _ X.xe s1
  refine Calls.callWith_builtin rfl (PySem.evalArgs_none (DT.callItems hs0 raw ?_))
  refine Calls.spliced_nil ?_
  refine list_items_raw (I1.ok.hd hc) (r := s1.heap.objs.size) ⟨_, Heap.get?_push_size _ rfl, rfl, rfl⟩ (raw.push _) (by omega) fun h' tk acc c as hk hS hl hG hacc => ?_
  have la : as.length = kvs.length := by omega
  have nd : as.Nodup := List.Pairwise.imp (fun {a b} (h : a < b) => Nat.ne_of_lt h) hG.rise
  let S := (s1.heap.push { cls := .type "dict_items", data := .fields #[.ref d] }).objs.size
  let os : List HO := (kvs.zip xs).map fun z => HO.tup [.ref z.2.2.1, z.1.2]
  let l : List (Addr × HO) := (S, .lst (as.map V.ref)) :: as.zip os
  have hSn : S ∉ as := fun z => Nat.lt_irrefl _ (hG.above _ z)
  have osAt : ∀ (i : Nat) (kv : List Key × V) (x : List Key × Addr × Value), kvs[i]? = some kv → xs[i]? = some x → os[i]? = some (HO.tup [.ref x.2.1, kv.2]) := fun i kv x h1 h2 => by
    show ((kvs.zip xs).map _)[i]? = _
    rw [List.getElem?_map, show (kvs.zip xs)[i]? = some (kv, x) from List.getElem?_zip_eq_some.mpr ⟨h1, h2⟩]; rfl
  have lS : l.lookup S = some (.lst (as.map V.ref)) := List.lookup_cons_self
  have lT : ∀ (i : Nat) (a : Addr) (kv : List Key × V) (x : List Key × Addr × Value), as[i]? = some a → kvs[i]? = some kv → xs[i]? = some x → l.lookup a = some (.tup [.ref x.2.1, kv.2]) := fun i a kv x h0 h1 h2 => by
    have hne : (a == S) = false := beq_eq_false_iff_ne.mpr fun e => hSn (by rw [← e]; exact List.mem_of_getElem? h0)
    show List.lookup a ((S, _) :: as.zip os) = _
    rw [List.lookup_cons, hne]
    exact lookup_zip nd h0 (osAt i kv x h1 h2)
  have lOf : ∀ b o, l.lookup b = some o → (b = S ∧ o = .lst (as.map V.ref)) ∨ ∃ (i : Nat) (kv : List Key × V) (x : List Key × Addr × Value), as[i]? = some b ∧ kvs[i]? = some kv ∧ xs[i]? = some x ∧ o = .tup [.ref x.2.1, kv.2] := fun b o h => by
    by_cases hb : b = S
    · subst hb
      rw [lS] at h
      exact .inl ⟨rfl, (Option.some.inj h).symm⟩
    · have hne : (b == S) = false := beq_eq_false_iff_ne.mpr hb
      have h' : (as.zip os).lookup b = some o := by
        have h2 : List.lookup b ((S, HO.lst (as.map V.ref)) :: as.zip os) = some o := h
        rw [List.lookup_cons, hne] at h2
        exact h2
      obtain ⟨i, h1, h2⟩ := zip_of h'
      obtain ⟨z, h3, h4⟩ := Option.map_eq_some_iff.mp ((List.getElem?_map ..).symm.trans h2)
      obtain ⟨h5, h6⟩ := List.getElem?_zip_eq_some.mp h3
      exact .inr ⟨i, z.1, z.2, h1, h5, h6, h4.symm⟩
  have fresh : ∀ b o, l.lookup b = some o → S ≤ b := fun b o h => by
    rcases lOf b o h with ⟨rfl, _⟩ | ⟨i, kv, x, h1, _⟩
    · exact Nat.le_refl _
    · exact Nat.le_of_lt (hG.above b (List.mem_of_getElem? h1))
  have J : L2.Inv X pins σ (overH H1 l) { s1 with heap := h', toks := tk } := by
    refine Inv_over (s := { s1 with heap := s1.heap.push { cls := .type "dict_items", data := .fields #[.ref d] } }) I2 hk fresh fun b o h => ?_
    rcases lOf b o h with ⟨rfl, rfl⟩ | ⟨i, kv, x, h1, h2, h3, rfl⟩
    · refine ⟨by rw [List.length_map]; omega, acc.toList, c, by rw [hacc]; exact LiI.vals_refs as, ?_⟩
      rw [Array.toArray_toList]; exact hS
    · obtain ⟨en, e1, e2⟩ := hG.pairs i b h1
      have e3 := entry_at hes i
      rw [e1, h3] at e3
      have e4 : en = entryOfKey (tupleKind (mixKind X.prog X.w)) x := Option.some.inj e3
      obtain ⟨y, hy, r1, r2, r3⟩ := L2.DX.pget rel h3
      rw [h2] at hy
      cases hy
      rw [e4] at e2
      exact ⟨by show 2 ≤ sizeLine; decide, [Value.ref x.2.1, x.2.2], .cons rfl (.cons r3 .nil), ⟨_, e2, rfl, _, rfl⟩⟩
  have up : Same H1 (overH H1 l) := fun b u e => by
    cases q : l.lookup b with
    | none => rw [over_out q]; exact e
    | some o => rw [I2.hok.fresh (fresh b o q)] at e; cases e
  refine ⟨.ref S, overH H1 l, J, rfl, q _ S as up (I2.hok.fresh (Nat.le_refl _)) (over_in lS) (paired_of la fun i t kv h1 h2 => ?_)⟩
  obtain ⟨x, hx1, r1, r2, r3⟩ := LiI.paired_get rel h2
  exact ⟨x.2.1, over_in (lT i t kv x h1 h2 hx1), up _ _ r2⟩
end
/-! ### dict(pairs) -/
theorem stored_all {ps : List (List Key × Addr × Value)} : ∀ (acc : List (List Key × Addr × Value)), ((acc ++ ps).map (·.1)).Nodup → storedAllH acc ps = acc ++ ps := by
  induction ps with
  | nil => intro acc _; rw [List.append_nil]; rfl
  | cons p ps ih =>
    intro acc hn
    have hnew : atKey acc p.1 = none := by
      cases q : atKey acc p.1 with
      | none => rfl
      | some z =>
        exfalso
        unfold atKey at q
        obtain ⟨x, hx, _⟩ := Option.map_eq_some_iff.mp q
        have h1 := List.mem_of_find?_eq_some hx
        have h2 : x.1 = p.1 := by simpa using List.find?_some hx
        rw [List.map_append, List.map_cons] at hn
        have h3 := (List.nodup_append.mp hn).2.2 x.1 (List.mem_map.mpr ⟨x, h1, rfl⟩) p.1 List.mem_cons_self
        exact h3 h2
    show storedAllH (storedH acc p.1 p.2.1 p.2.2) ps = _
    rw [storedH_new hnew]
    have e : acc ++ p :: ps = (acc ++ [(p.1, p.2.1, p.2.2)]) ++ ps := by simp
    rw [ih _ (by rw [← e]; exact hn), e]
def rDictPT : List V → Hp → VK → Prop := fun vs H Q => ∃ (a : Addr) (ts : List Addr) (kvs : List (List Key × V)), vs = [.ref a] ∧ H a = some (.lst (ts.map V.ref)) ∧ PairsT H ts kvs ∧ (kvs.map (·.1)).Nodup ∧ ∀ p, H p = none → Q (.ref p) (upd H p (.dT kvs))
theorem call_dictPT {X : Cx} (hcalm : X.calm = true) (hu : X.A.units + 64 < cLine) : CallR X (.type "dict") rDictPT := by
  intro pins s σ H xs us Q I r q
  obtain ⟨a, ts, kvs, rfl, ha, hp, hnd, q⟩ := q
  obtain ⟨u, rfl, rx⟩ := vals1 r
  cases rx
  obtain ⟨hz, its, n, rv, ho⟩ := I.hok a _ ha
  have ei := refs_at rv
  subst ei
  rw [List.length_map] at hz
  have lk : ts.length = kvs.length := Paired.length hp
  -- what stands at each pair
  have at_ : ∀ (i : Nat) (t : Addr) (kv : List Key × V), ts[i]? = some t → kvs[i]? = some kv → ∃ (b : Addr) (v : Value), H b = some (.tup (kv.1.map kV)) ∧ RelV kv.2 v ∧ IsTup s.heap t #[.ref b, v] := fun i t kv h1 h2 => by
    obtain ⟨kv', e, qa, h3, h4⟩ := LiI.paired_get hp h1
    rw [h2] at e
    cases e
    obtain ⟨_, its2, r2, ht⟩ := I.hok t _ h3
    cases r2 with
    | cons ra rb =>
      cases rb with
      | cons rc rd =>
        cases rd
        cases ra
        exact ⟨qa, _, h4, rc, ht⟩
  have ch : ∀ i : Fin ts.length, ∃ x : Addr × Value, H x.1 = some (.tup ((kvs[i.1]'(by omega)).1.map kV)) ∧ RelV (kvs[i.1]'(by omega)).2 x.2 ∧ IsTup s.heap ts[i.1] #[.ref x.1, x.2] := fun i => by
    obtain ⟨b, v, h1, h2, h3⟩ := at_ i.1 ts[i.1] (kvs[i.1]'(by omega)) (List.getElem?_eq_getElem _) (List.getElem?_eq_getElem _)
    exact ⟨(b, v), h1, h2, h3⟩
  let f : Fin ts.length → Addr × Value := fun i => Classical.choose (ch i)
  have hf : ∀ i : Fin ts.length, H (f i).1 = some (.tup ((kvs[i.1]'(by omega)).1.map kV)) ∧ RelV (kvs[i.1]'(by omega)).2 (f i).2 ∧ IsTup s.heap ts[i.1] #[.ref (f i).1, (f i).2] := fun i => Classical.choose_spec (ch i)
  let ps : List (List Key × Addr × Value) := List.ofFn fun i : Fin ts.length => ((kvs[i.1]'(by omega)).1, (f i).1, (f i).2)
  have psl : ps.length = ts.length := List.length_ofFn
  have psAt : ∀ (i : Nat) (hi : i < ts.length), ps[i]? = some ((kvs[i]'(by omega)).1, (f ⟨i, hi⟩).1, (f ⟨i, hi⟩).2) := fun i hi => by
    rw [List.getElem?_eq_getElem (by omega), List.getElem_ofFn]
  have kt : KT H kvs ps := paired_of (by omega) fun i kv x h1 h2 => by
    have hi : i < ts.length := by have := (List.getElem?_eq_some_iff.mp h1).1; omega
    rw [psAt i hi] at h2
    cases h2
    obtain ⟨hi', e⟩ := List.getElem?_eq_some_iff.mp h1
    subst e
    exact ⟨rfl, (hf ⟨i, hi⟩).1, (hf ⟨i, hi⟩).2.1⟩
  have keysP : ps.map (·.1) = kvs.map (·.1) := by
    apply List.ext_getElem?
    intro i
    rw [List.getElem?_map, List.getElem?_map]
    by_cases hi : i < ts.length
    · rw [psAt i hi, List.getElem?_eq_getElem (by omega)]; rfl
    · rw [List.getElem?_eq_none (by omega), List.getElem?_eq_none (by omega)]; rfl
  let prs : List (Value × Value) := ps.map fun x => (Value.ref x.2.1, x.2.2)
  have prl : prs.length = ts.length := by rw [List.length_map]; exact psl
  have hst : KeysStay (tupleKind (mixKind X.prog X.w)) s.heap s.heap.objs.size [] ps := fun h' hk x hx => by
    obtain ⟨y, hy⟩ := List.mem_iff_getElem?.mp hx
    obtain ⟨kv, hkv, r1, r2, _⟩ := L2.DX.pget kt hy
    have ok' : HOk X.prog X.w H h' := by
      intro b o e
      exact (I.hok b o e).stay (fun c v _ z => hk c v (Nat.ne_of_lt (Heap.lt_size z)) (by simp) z) (fun _ z => z) fun _ _ z => z
    rw [← r1]
    exact key_of ok' r2
  refine call_dict_pairsH (knd := tupleKind (mixKind X.prog X.w)) (ps := ps) (PairArg.list a ((ts.map Value.ref).toArray) (fun j => (ts[j]?).getD 0) prs) (I.ok.hd hcalm) (show X.A.in1.in1.units < cLine by show X.A.units + 1 + 1 < cLine; omega) ⟨⟨_, n, ho, rfl, rfl, rfl⟩, by simp [prl], fun j k v hj => ?_⟩ ⟨by rw [prl, psl], fun i key v hrel => ?_⟩ hst (by omega) fun h' tk hd' hk => ?_
  · have hj' : j < ts.length := by have := (List.getElem?_eq_some_iff.mp hj).1; omega
    rw [List.getElem?_map, psAt j hj'] at hj
    cases hj
    have ht := (hf ⟨j, hj'⟩).2.2
    refine ⟨by simp [hj'], .inl ?_⟩
    show s.heap.IsTuple ((ts[j]?).getD 0) _
    rw [List.getElem?_eq_getElem hj']
    exact ht
  · have hj' : i < ts.length := by have := (List.getElem?_eq_some_iff.mp hrel).1; omega
    have hrel' : prs[i]? = some (key, v) := hrel
    rw [List.getElem?_map, psAt i hj'] at hrel'
    cases hrel'
    exact ⟨_, _, psAt i hj', rfl⟩
  · have e := stored_all (ps := ps) [] (by rw [List.nil_append, keysP]; exact hnd)
    rw [e, List.nil_append] at hd'
    have hm : (s.heap.objs.size == sysModules) = false := beq_eq_false_iff_ne.mpr (Nat.ne_of_gt I.big)
    have hk' : ∀ b o, s.heap.get? b = some o → h'.get? b = some o := fun b o e => hk b o (by simp) e
    obtain ⟨o, es, ep, h1, h2, h3, h4, h5, h6⟩ := hd'
    have hfr : H s.heap.objs.size = none := I.hok.fresh (Nat.le_refl _)
    refine ⟨.ref s.heap.objs.size, upd H s.heap.objs.size (.dT kvs), I.laid (t' := tk) hk' (Nat.le_refl _) (show ObjOk X.prog X.w _ _ _ (.dT kvs) from ⟨by omega, hm, ps, kt.keeps fun b ys e => ?_, o, es, ep, h1, h2, h3, h4, h6⟩), rfl, q _ hfr⟩
    rw [upd_ne (ne_of_none e hfr)]; exact e
end MN
/-! the walk over d.items() of a dict with tuple keys; sorted of data -/
namespace MN
open PySem PySem.Spec PyProof.Rows L2
/-- the pairs, each a new tuple of the key's own tuple and the value -/
def Itit (d : Addr) (o : Obj) (kvs : List (List Key × V)) : It :=
  ⟨fun i H => H d = some (.frz o (.dT kvs)) ∧ i < kvs.length, fun i H x H' => ∃ T k v q, kvs[i]? = some (k, v) ∧ x = .ref T ∧ H T = none ∧ H q = some (.tup (k.map kV)) ∧ H' = upd H T (.tup [.ref q, v]), fun i H => H d = some (.frz o (.dT kvs)) ∧ kvs.length ≤ i⟩
section
variable {X : Cx} {pins : List (Addr × Obj)} {σ : L2.St} {H : Hp} {s : Shared} {d : Addr} {o : Obj}
theorem frzTV {kvs : List (List Key × V)} (I : L2.Inv X pins σ H s) (h : H d = some (.frz o (.dT kvs))) :
    (d == sysModules) = false ∧ s.heap.get? d = some o ∧ o.ExactDict ∧ ∃ (es : Array DictEntry) (ep : Nat), o.data = .dict es ep ∧ es.size = kvs.length ∧
      ∀ (i : Nat) (k : List Key) (v : V), kvs[i]? = some (k, v) → ∃ (en : DictEntry) (q : Addr), es[i]? = some en ∧ en.key = .ref q ∧ H q = some (.tup (k.map kV)) ∧ RelV v en.val := by
  obtain ⟨hd, z, hs, xs, pr, o', es, ep, ho, hx, hdt, he, _⟩ := I.hok d _ h
  rw [hd] at ho
  cases ho
  refine ⟨hs, hd, hx, es, ep, hdt, ?_, fun i k v e => ?_⟩
  · have l1 : es.size = xs.length := size_of_entries he
    have l2 : kvs.length = xs.length := Paired.length pr
    omega
  · obtain ⟨b, hb, e1, e2, e3⟩ := LiI.paired_get pr e
    have q := entry_at he i
    rw [hb] at q
    exact ⟨_, b.2.1, q, rfl, e2, e3⟩
end
section
variable {P : Program} {w : World} {K : PySem.W.Frag} {d : Addr} {o : Obj} {es : Array DictEntry} {ep : Nat}
theorem turn_itemsT {kvs : List (List Key × V)} {elts : List Expr} {kk : Nat} {tpos : Pos} (it : Addr) (hod : o.data = .dict es ep) :
    Turn P w K (.Tuple elts kk tpos) (Itit d o kvs) [it] it (fun i h => ∃ ok ov, IsItemIter h it d i kvs.length ep ok ov) where
  mem := by simp
  obj := fun i h st b hb => by
    have e : b = it := by simpa using hb
    subst e
    obtain ⟨ok, ov, e⟩ := st
    exact ⟨_, e, fun v z => nomatch z⟩
  keep := fun i h h' st k => let ⟨ok, ov, e⟩ := st; ⟨ok, ov, k it (by simp) _ e⟩
  item := by
    intro X hP hw hK hc i pins s σ H E I hf st hg
    subst hP hw hK
    obtain ⟨hd, hi⟩ := hg
    obtain ⟨hs, hgd, hx, es', ep', hdt, hsz, ent⟩ := frzTV I hd
    obtain ⟨rfl, rfl⟩ := dict_ep hod hdt
    obtain ⟨⟨k, v⟩, hkv⟩ : ∃ p, kvs[i]? = some p := ⟨kvs[i], List.getElem?_eq_getElem hi⟩
    obtain ⟨en, q, hen, hkey, hq, rv⟩ := ent i k v hkv
    obtain ⟨hie, ee⟩ := Array.getElem?_eq_some_iff.mp hen
    obtain ⟨ok, ov, he⟩ := st
    rw [← hsz] at he
    have hlt : it < s.heap.objs.size := Heap.lt_size he
    refine DT.nextI he ⟨o, hgd, hx, hod⟩ hie fun h' ho hT hz hk => ?_
    refine ⟨_, rfl, wpAny_letOwnedTupleGo_items (s := { s with heap := h' }) ho fun h'' he' sb => ?_⟩
    have hT2 : h''.get? s.heap.objs.size = some { cls := .type "tuple", data := .seq #[.ref q, en.val] } := by
      have := (sb.2 _ (Nat.ne_of_gt hlt)).trans hT
      rw [ee, hkey] at this
      exact this
    have new : ObjOk X.prog X.w (upd H s.heap.objs.size (.tup [.ref q, v])) h'' s.heap.objs.size (.tup [.ref q, v]) :=
      ⟨by show 2 ≤ sizeLine; decide, [.ref q, en.val], .cons rfl (.cons rv .nil), ⟨_, hT2, rfl, _, rfl⟩⟩
    have I1 : L2.Inv X pins σ (upd H s.heap.objs.size (.tup [.ref q, v])) { s with heap := h'' } :=
      I.turnedNew (t' := s.toks) (ch := [it]) (fun b ob hb e => (sb.2 b (by simpa using hb)).trans (hk b ob (by simpa using hb) e)) hf (Nat.le_refl _) new
    refine ⟨.ref s.heap.objs.size, _, I1, rfl, ⟨_, k, v, q, hkv, rfl, I.hok.fresh (Nat.le_refl _), hq, rfl⟩, ⟨es'[i].key, es'[i].val, ?_⟩, fun b hb => ?_⟩
    · rw [← hsz]; exact he'
    · have e : b = it := by simpa using hb
      rw [e, upd_ne (Nat.ne_of_lt hlt)]
      exact (hf it (by simp)).1
  done := by
    intro X hP hw hK hc i pins s σ H E I hf st hg
    subst hP hw hK
    obtain ⟨hd, hi⟩ := hg
    obtain ⟨f0, f1, f2, f3, f4, f5⟩ := hf it (by simp)
    obtain ⟨hs, hgd, hx, es', ep', hdt, hsz, ent⟩ := frzTV I hd
    obtain ⟨rfl, rfl⟩ := dict_ep hod hdt
    obtain ⟨ok, ov, he⟩ := st
    rw [← hsz] at he
    exact DT.endI (I.ok.hd hc) he ⟨o, hgd, hx, hod⟩ (by omega) fun h' eb => ⟨rfl, I.turned (t' := s.toks) (fun b ob hb e => eb b ob hb e) f0 f1 f3 f4 f5⟩
  self := fun A i s Q E st h => let ⟨_, _, e⟩ := st; PySem.W.kcp_self e h
end
def iItemsT (td : TE) : TI := fun σ H R => td σ H fun x H1 => ∃ d o kvs, x = .ref d ∧ H1 d = some (.frz o (.dT kvs)) ∧ R (Itit d o kvs) H1
section
variable {X : Cx} {e : Expr} {td : TE} {apos cpos : Pos}
theorem pi_itemsT {elts : List Expr} {kk : Nat} {tpos : Pos} (he : PE X e td) (hbase : attributeBase e "items" X.env (eval e X.env) = eval e X.env := by rfl) (hline : (apos.endLine == cpos.line) = true := by rfl) :
    PI X (.Tuple elts kk tpos) (.Call (.Attribute e "items" apos) [] [] cpos) (iItemsT td) := by
  refine ⟨fun pins s σ H R I h => ?_⟩
  refine wpAny_Call_method (T := "dict") (id := "dict.items") hbase rfl hline F.plainAttrs_dict F.slot_dict_items F.type_dict_items (thn (he.run pins s σ H _ I h) fun u s1 ⟨x, H1, I1, rx, d, o, kvs, ex, hd, q⟩ => ?_)
  subst ex
  obtain rfl : u = Value.ref d := rx
  obtain ⟨hs, hgd, hx, es, ep, hdt, hsz, ent⟩ := frzTV I1 hd
  have raw : DT.Raw s1.heap d es ep := ⟨o, hgd, hx, hdt⟩
  refine ⟨raw.typeIs, fun b hb => ?_, ?_⟩
  · cases hb
    exact ⟨o, hgd, hx.2.1⟩
  have I2 : L2.Inv X pins σ H1 { s1 with heap := s1.heap.push { cls := .type "dict_items", data := .fields #[.ref d] } } := I1.kept (t' := s1.toks) fun b ob q => Heap.get?_push_of_some _ q
  show wpAny _ _ (callWith cpos (.builtin "dict.items") [.ref d] [] []) _ X.xe s1
  refine Calls.callWith_builtin rfl (PySem.evalArgs_none (DT.callItems hs raw ?_))
  refine DT.iterI (s := { s1 with heap := _ }) ⟨_, Heap.get?_push_size _ rfl, rfl, rfl⟩ (raw.push _) (pi_one (tk := s1.toks) I2 _ (turn_itemsT _ hdt) ⟨.none, .none, ?_⟩ q)
  rw [← hsz]
  exact Heap.get?_push_size _ rfl
theorem walk_itemsT {d : Addr} {o : Obj} {kvs : List (List Key × V)} : Walk (Itit d o kvs) kvs.length (fun H => H d = some (.frz o (.dT kvs)))
    (fun i H x H' => ∃ T k v q, kvs[i]? = some (k, v) ∧ x = .ref T ∧ H T = none ∧ H q = some (.tup (k.map kV)) ∧ H' = upd H T (.tup [.ref q, v])) :=
  ⟨fun _ _ hi q => ⟨q, hi⟩, fun _ q => ⟨q, Nat.le_refl _⟩, fun _ _ _ _ _ _ y => y⟩
end
/-! ### sorted(data) -/
def rSortD (K : PySem.W.Frag) : List V → Hp → VK → Prop := fun vs H Q => ∃ (a : Addr) (bs : List (V × PyData)), vs = [.ref a] ∧ SqL K H a (bs.map Prod.fst) ∧ (∀ b ∈ bs, Dp K H b.1 b.2) ∧ PySem.W.AllAlike (bs.map Prod.snd) ∧ PySem.W.Sortable (bs.map Prod.snd) ∧ (∀ b ∈ bs, b.2.depth ≤ 8) ∧
  ∀ p, H p = none → Q (.ref p) (upd H p (.lst ((bs.mergeSort (PySem.W.dataLe false Prod.snd)).map Prod.fst)))
theorem vals_each : ∀ {bs : List (V × PyData)} {us : List Value}, Vals (bs.map Prod.fst) us → PySem.W.EachIs (fun v (b : V × PyData) => RelV b.1 v) us bs
  | [], _, .nil => PySem.W.EachIs.nil
  | _ :: _, _, .cons e r => PySem.W.EachIs.cons e (vals_each r)
theorem each_vals : ∀ {bs : List (V × PyData)} {us : List Value}, PySem.W.EachIs (fun v (b : V × PyData) => RelV b.1 v) us bs → Vals (bs.map Prod.fst) us
  | _, _, .nil => .nil
  | _, _, .cons h1 h2 => .cons h1 (each_vals h2)
theorem each_reads {X : Cx} {pins : List (Addr × Obj)} {σ : L2.St} {H : Hp} {s : Shared} (I : L2.Inv X pins σ H s) : ∀ {bs : List (V × PyData)} {us : List Value}, Vals (bs.map Prod.fst) us → (∀ b ∈ bs, Dp X.K H b.1 b.2) → PySem.W.EachIs (fun v (b : V × PyData) => ∃ as, Reads s.heap v b.2 as) us bs
  | [], _, .nil, _ => PySem.W.EachIs.nil
  | b :: bs, _, .cons e r, h => PySem.W.EachIs.cons (Dp.reads I b.2 b.1 _ (h b List.mem_cons_self) e) (each_reads I r fun c hc => h c (List.mem_cons_of_mem _ hc))
theorem cr_sortedD {X : Cx} (hu : X.A.units + 64 < cLine) : CallR X (.builtin "sorted") (rSortD X.K) := by
  intro pins s σ H vs us Q I r h
  obtain ⟨a, bs, rfl, hs, hd, hal, hk, hdp, q⟩ := h
  obtain ⟨u, rfl, rx⟩ := vals1 r
  cases rx
  obtain ⟨its, rv, hl, hz⟩ := I.list hs
  rw [List.length_map] at hz
  refine PySem.W.sorted_data (enc := Prod.snd) hl.isList (vals_each rv) (each_reads I rv hd) hal hk hz (fun b hb => by have := hdp b hb; omega) fun out hlen he => ?_
  obtain ⟨c, hc⟩ := sortedAll_at s.heap its out.toArray
  have hz2 : ((bs.mergeSort (PySem.W.dataLe false Prod.snd)).map Prod.fst).length ≤ sizeLine := by rw [List.length_map, List.length_mergeSort]; exact hz
  exact ⟨.ref (s.heap.objs.size + 1), _, I.laid (t' := s.toks) (fun b o e => sortedAll_old e) (Nat.le_succ _) (show ObjOk X.prog X.w _ _ _ (.lst ((bs.mergeSort (PySem.W.dataLe false Prod.snd)).map Prod.fst)) from ⟨hz2, out, c, each_vals he, hc⟩), rfl, q _ (I.hok.fresh (Nat.le_succ _))⟩
end MN
/-! sets of keys (ints and texts): set(x), sorted(set), len(set); x in an instance by its own __contains__ -/
namespace MN
open PySem PySem.Spec PyProof.Rows L2
section
variable {P : Program} {w : World} {A : Around} {E : Value → Shared → Prop} {s : Shared} {KT : Type} [DecidableEq KT] {knd : PySem.KeyKind P w KT} {a : Addr} {o : Obj} {es : Array (Int × Value)} {ep : Nat} {t : SetTable}
/-- laid and perhaps laid anew -/
theorem tail_raw {gv : Bool → Sem Unit} (hgv : ∀ (b : Bool) (z : Shared) (Q' : Unit → Shared → Prop), Q' () z → wpAny (model P w) A (gv b) Q' E z) (ho : s.heap.get? a = some o) (hd : o.data = .set es ep t)
    {fs : Array (Int × Value)} {u : SetTable} (hb : fs.size < scanBound) (hf : u.fits fs.size = true) (hr : Ris u.place.toList) {dm : Bool} {R : Option Bool → Shared → Prop}
    (hR : ∀ h' gs e' v, Heap.SameBut a s.heap h' → h'.get? a = some { o with data := .set gs e' v } → gs.toList.Perm fs.toList → v.fits gs.size = true → Ris v.place.toList → v.led = u.led → R (some true) { s with heap := h' }) :
    wpAny (model P w) A (storeSet a fs u >>= fun _ => if (!dm && u.tooFull) = true then (gv (relayAll u fs (SetTable.grown fs.size)).2.2 >>= fun _ => storeSet a (relayAll u fs (SetTable.grown fs.size)).1 (relayAll u fs (SetTable.grown fs.size)).2.1 >>= fun _ => pure (some true)) else pure (some true)) R E s := by
  refine wpAny_bind (wpAny_storeSet_of ho hd ?_ (fits_of_scanBound hb))
  have o1 := store_at (es' := fs) (t' := u) ho hd
  have b1 := Heap.SameBut.update s.heap a (Obj.putSet fs u)
  split
  · have q1 := relayAll_perm u fs (SetTable.grown fs.size)
    have q2 := relayAll_fits u fs (SetTable.grown fs.size)
    have q3 := relayAll_ris u fs (SetTable.grown fs.size)
    have q4 := relayAll_led u fs (SetTable.grown fs.size)
    generalize relayAll u fs (SetTable.grown fs.size) = Z at q1 q2 q3 q4 ⊢
    obtain ⟨gs, v, gave⟩ := Z
    dsimp only at q1 q2 q3 q4 ⊢
    have hz : gs.size < scanBound := by rw [← Array.length_toList, q1.length_eq, Array.length_toList]; exact hb
    refine wpAny_bind (hgv _ _ _ (wpAny_bind (wpAny_storeSet_of o1 rfl ?_ (fits_of_scanBound hz))))
    have o2 := store_at (es' := gs) (t' := v) o1 rfl
    exact wpAny_pure (hR _ gs _ v (b1.trans (Heap.SameBut.update _ a _)) o2 q1 q2 q3 q4)
  · exact wpAny_pure (hR _ fs _ u b1 o1 (List.Perm.refl _) hf hr rfl)
theorem add_raw {k : KT} {x : Value} {Q : Bool → Shared → Prop} (hkey : knd.is k x = true) (hsc : x.scannable = true) (ho : s.heap.get? a = some o) (hd : o.data = .set es ep t) (hel : ElemsOf knd es.toList) (hb : es.size + 1 < scanBound) (hf : t.fits es.size = true) (hr : Ris t.place.toList)
    (q1 : (∃ e ∈ es.toList, knd.is k e.2 = true) → Q false s)
    (q2 : (∀ e ∈ es.toList, knd.is k e.2 = false) → ∀ h' gs e' v, Heap.SameBut a s.heap h' → h'.get? a = some { o with data := .set gs e' v } → gs.toList.Perm ((knd.hash k, x) :: es.toList) → v.fits gs.size = true → Ris v.place.toList → v.led = t.led → Q true { s with heap := h' }) :
    wpAny (model P w) A (setAddHashed a x (knd.hash k)) Q E s := by
  have hb0 : es.size < scanBound := by omega
  unfold setAddHashed setAddHashedIn
  refine wpAny_holding (wpAny_bind (wpAny_setState_of ho hd hf ?_))
  dsimp only
  rw [byScan_of hsc hb0 hel, if_pos rfl]
  unfold setAddByScan
  refine wpAny_bind (wpAny_bind (wpAny_rule (wpAny_bind (wpAny_setScan_of hkey ho hd hf hel ?_))))
  cases hfi : List.findIdx? (fun e => knd.is k e.2) es.toList with
  | some j =>
    obtain ⟨hj, pj, _⟩ := List.findIdx?_eq_some_iff_getElem.mp hfi
    exact wpAny_pure (wpAny_pure (q1 ⟨_, List.getElem_mem hj, pj⟩))
  | none =>
    have hno : ∀ e ∈ es.toList, knd.is k e.2 = false := fun e he => by simpa using List.findIdx?_eq_none_iff.mp hfi e he
    have p1 := layNew_perm t es (knd.hash k) x
    have p2 := layNew_fits t es (knd.hash k) x
    have p3 := layNew_ris t es (knd.hash k) x hr
    have p4 := layNew_led t es (knd.hash k) x
    dsimp only
    generalize layNew t es (knd.hash k) x = Z at p1 p2 p3 p4 ⊢
    obtain ⟨fs, u, dm, gave⟩ := Z
    dsimp only at p1 p2 p3 p4 ⊢
    rw [Array.toList_push] at p1
    have pc : fs.toList.Perm ((knd.hash k, x) :: es.toList) := p1.trans (List.perm_append_singleton _ _)
    have hz : fs.size < scanBound := by rw [← Array.length_toList, pc.length_eq, List.length_cons, Array.length_toList]; exact hb
    have gw : ∀ (b : Bool) (z : Shared) (Q' : Unit → Shared → Prop), Q' () z → wpAny (model P w) A (match b with | true => rule "set.scan.the-table-gave-way" | false => pure ()) Q' E z := fun b z Q' q => by
      cases b
      · exact wpAny_pure q
      · exact wpAny_rule q
    refine wpAny_bind (gw _ _ _ ?_)
    split
    · refine wpAny_bind ?_
      rw [hashByValue_scannable 8 hsc]
      refine wpAny_pure (tail_raw gw ho hd hz ?_ ?_ fun h' gs e' v c1 c2 c3 c4 c5 c6 => wpAny_pure (q2 hno h' gs e' v c1 c2 (c3.trans pc) c4 c5 ?_))
      · split
        · exact p2
        · exact SetTable.fits_plain_off p2
      · split <;> exact p3
      · rw [c6]; split <;> exact p4
    · refine wpAny_bind (wpAny_pure ?_)
      simp only [↓reduceIte]
      exact tail_raw gw ho hd hz p2 p3 fun h' gs e' v c1 c2 c3 c4 c5 c6 => wpAny_pure (q2 hno h' gs e' v c1 c2 (c3.trans pc) c4 c5 (c6.trans p4))
end
/-! ### a set of keys -/
def kOf (e : Int × Value) : Key := match e.2 with | .int i _ => .inl i | .str z _ => .inr z | _ => .inl 0
def GoodK (P : Program) (w : World) (e : Int × Value) : Prop := (mixKind P w).is (kOf e) e.2 = true ∧ e.1 = (mixKind P w).hash (kOf e) ∧ e.2.scannable = true
def SetX (P : Program) (w : World) (h : Heap) (a : Addr) (ks : List Key) : Prop := ∃ o es ep t, h.get? a = some o ∧ o.ExactSet ∧ o.data = .set es ep t ∧ (∀ e ∈ es.toList, GoodK P w e) ∧ (es.toList.map kOf).Perm ks ∧ ks.Nodup ∧ es.size < scanBound ∧ t.fits es.size = true ∧ Ris t.place.toList ∧
  (w.params.followText "set-order" = true ∨ t.led = true)
section
variable {P : Program} {w : World} {A : Around} {E : Value → Shared → Prop} {s : Shared} {a : Addr} {ks : List Key}
theorem SetX.at {h h' : Heap} (R : SetX P w h a ks) (k : ∀ o, h.get? a = some o → h'.get? a = some o) : SetX P w h' a ks := by
  obtain ⟨o, es, ep, t, ho, r⟩ := R
  exact ⟨o, es, ep, t, k o ho, r⟩
theorem keyIs_kOf {k : Key} {x : Value} {h : Int} (hk : (mixKind P w).is k x = true) : kOf (h, x) = k := by
  rcases keyIs_shape hk with ⟨i, u, rfl, rfl⟩ | ⟨z, u, rfl, rfl⟩ <;> rfl
theorem goodK_el {l : List (Int × Value)} (g : ∀ e ∈ l, GoodK P w e) : ElemsOf (mixKind P w) l := fun e he => ⟨⟨kOf e, (g e he).1, (g e he).2.1⟩, (g e he).2.2⟩
theorem key_scan' {k : Key} {x : Value} (hk : (mixKind P w).is k x = true) : x.scannable = true := by
  rcases keyIs_shape hk with ⟨i, u, rfl, rfl⟩ | ⟨z, u, rfl, rfl⟩ <;> rfl
theorem SetX.len {h : Heap} (R : SetX P w h a ks) : ∃ o es ep t, h.get? a = some o ∧ o.ExactSet ∧ o.data = .set es ep t ∧ t.fits es.size = true ∧ es.size = ks.length := by
  obtain ⟨o, es, ep, t, ho, hx, hd, g, pm, nd, hb, hf, hr, hl⟩ := R
  exact ⟨o, es, ep, t, ho, hx, hd, hf, by rw [← pm.length_eq, List.length_map, Array.length_toList]⟩
theorem setX_add {k : Key} {x : Value} {Q : Bool → Shared → Prop} (hk : (mixKind P w).is k x = true) (R : SetX P w s.heap a ks) (hb1 : ks.length + 1 < scanBound)
    (hQ : ∀ h' us b, Heap.SameBut a s.heap h' → SetX P w h' a us → us.length ≤ ks.length + 1 → (∀ j, j ∈ us ↔ j ∈ ks ∨ j = k) → Q b { s with heap := h' }) : wpAny (model P w) A (setAddHashed a x ((mixKind P w).hash k)) Q E s := by
  obtain ⟨o, es, ep, t, ho, hx, hd, g, pm, nd, hb, hf, hr, hl⟩ := R
  have hz : es.size = ks.length := by rw [← pm.length_eq, List.length_map, Array.length_toList]
  refine add_raw hk (key_scan' hk) ho hd (goodK_el g) (by omega) hf hr (fun ⟨e, he, q⟩ => ?_) fun hno h' gs e' v c1 c2 c3 c4 c5 c6 => ?_
  · have hin : k ∈ ks := by
      rw [← pm.mem_iff, List.mem_map]
      exact ⟨e, he, (mixKind P w).inj _ _ _ (g e he).1 q⟩
    have z : s = { s with heap := s.heap } := by cases s; rfl
    rw [z]
    exact hQ s.heap ks false (Heap.SameBut.refl a _) ⟨o, es, ep, t, ho, hx, hd, g, pm, nd, hb, hf, hr, hl⟩ (Nat.le_succ _) fun j => ⟨.inl, fun q => q.elim id fun e => e ▸ hin⟩
  · have pk : (gs.toList.map kOf).Perm (k :: es.toList.map kOf) := by
      have q := c3.map kOf
      rw [List.map_cons, keyIs_kOf hk] at q
      exact q
    have hn : k ∉ ks := fun hm => by
      rw [← pm.mem_iff, List.mem_map] at hm
      obtain ⟨e, he, q⟩ := hm
      have c := hno e he
      rw [← q, (g e he).1] at c
      cases c
    have lg : gs.size = ks.length + 1 := by rw [← Array.length_toList, c3.length_eq, List.length_cons, Array.length_toList, hz]
    refine hQ h' (k :: ks) true c1 ⟨_, gs, e', v, c2, hx, rfl, fun e he => ?_, pk.trans (pm.cons k), List.nodup_cons.mpr ⟨hn, nd⟩, by omega, c4, c5, hl.imp id fun z => c6.trans z⟩ (Nat.le_refl _) fun j => by rw [List.mem_cons]; exact Or.comm
    rcases List.mem_cons.mp (c3.mem_iff.mp he) with rfl | he
    · refine ⟨?_, ?_, key_scan' hk⟩
      · rw [keyIs_kOf hk]; exact hk
      · rw [keyIs_kOf hk]
    · exact g e he
theorem setX_fresh {h : Heap} (ho : h.get? a = some { cls := .type "set", dict := none, data := .set #[] 0 (.fresh 0 0 (!w.params.followText "set-order")) }) : SetX P w h a [] :=
  ⟨_, #[], 0, _, ho, ⟨rfl, rfl, rfl⟩, rfl, fun e he => by simp at he, by simp, List.nodup_nil, by decide, by rfl, List.Pairwise.nil, by
    show _ ∨ (!w.params.followText "set-order") = true
    cases w.params.followText "set-order"
    · exact .inr rfl
    · exact .inl rfl⟩
theorem setX_loop {I : Addr} {fp wr : List Addr} {G : Array GenState → Array GenState → Prop} {n : Nat} {Pv : Nat → Value → Prop} {St : Nat → Shared → Prop} {R : Result → Shared → Prop}
    (W : WalksS P w A.in1 I fp wr G n Pv St) (S : Addr) (hSf : S ∉ fp) (vs : List Key) (hn : n = vs.length) (hb : vs.length + 1 < scanBound) (hval : ∀ i v, Pv i v → ∃ k, vs[i]? = some k ∧ (mixKind P w).is k v = true) :
    ∀ (m i : Nat) (s : Shared), n - i = m → i ≤ n → St i s → (∃ us, SetX P w s.heap S us ∧ us.length ≤ i ∧ ∀ j, j ∈ us ↔ j ∈ vs.take i) →
      (∀ z us, Moved (S :: wr) G s z → SetX P w z.heap S us → us.length ≤ n → (∀ j, j ∈ us ↔ j ∈ vs) → R (.ok (.ret .none)) z) → codeAny (model P w) A (.builtin "set.update.loop" ⟨[.ref S, .ref I], []⟩) R s := by
  have nw : S ∉ wr := fun q => hSf (W.sub _ q)
  have sb : ∀ b ∈ wr, b ∈ S :: wr := fun b q => List.mem_cons_of_mem _ q
  intro m
  induction m with
  | zero =>
    intro i s e1 e2 st ⟨us, hS, ul, hm⟩ hR
    obtain rfl : i = n := by omega
    refine codeAny_builtin F.entry_set_update_loop ?_
    rw [Around.under_plainId F.plain_set_update_loop _]
    refine wpAny_bind (m := pyNext (.ref I)) (W.done s _ _ st fun z mv => wpAny_pure (hR z us (mv.mono sb) (hS.at fun u q => mv.heap S _ nw q) ul fun j => ?_))
    rw [hm j, hn, List.take_length]
  | succ m ih =>
    intro i s e1 e2 st ⟨us, hS, ul, hm⟩ hR
    have hlt : i < n := by omega
    refine codeAny_builtin F.entry_set_update_loop ?_
    rw [Around.under_plainId F.plain_set_update_loop _]
    refine wpAny_bind (m := pyNext (.ref I)) (W.item i s _ _ hlt st fun v z hP st2 mv => ?_)
    obtain ⟨k, hk1, hk2⟩ := hval i v hP
    have hS2 : SetX P w z.heap S us := hS.at fun u q => mv.heap S _ nw q
    show wpAny _ A.in1 (holding [v] (setAdd S v) >>= _) _ _ z
    refine wpAny_bind (wpAny_holding ?_)
    unfold setAdd
    refine wpAny_holding (wpAny_bind ((mixKind P w).pyHash hk2 ?_))
    refine setX_add (s := { z with toks := z.toks + 1 }) hk2 hS2 (by omega) fun h' us' b c1 c2 c3 c4 => ?_
    refine wpAny_pure ⟨plainId_quiet F.plain_set_update_loop _, ih (i + 1) _ (by omega) hlt (W.frame _ z _ _ st2 (Nat.le_succ _) fun b hb u q => ?_) ⟨us', c2, by omega, fun j => ?_⟩ fun z2 us2 mv2 => ?_⟩
    · rw [c1.2 b (fun e : b = S => hSf (by rw [← e]; exact hb))]; exact q
    · rw [c4 j, hm j, List.take_add_one, hk1, List.mem_append]
      simp
    · refine hR z2 us2 (Moved.trans W.gtrans ((mv.mono sb).then_heap (Nat.le_succ _) fun b u hb q => ?_) mv2)
      rw [c1.2 b (fun e : b = S => hb (by rw [e]; exact List.mem_cons_self))]; exact q
end
end MN
/-! set(x) of keys, sorted(set), in by an own __contains__ -/
namespace MN
open PySem PySem.Spec PyProof.Rows L2
section
variable {P : Program} {w : World} {A : Around} {E : Value → Shared → Prop} {s : Shared}
abbrev setO0 (w : World) : Obj := { cls := .type "set", dict := none, data := .set #[] 0 (.fresh 0 0 (!w.params.followText "set-order")) }
/-- what is walked gives the keys vs -/
def Gives (P : Program) (w : World) (s : Shared) (x : Value) (vs : List Key) : Prop := ∀ (z : Shared) (A' : Around) (E' : Value → Shared → Prop) (Q' : Value → Shared → Prop), (∀ b o, s.heap.get? b = some o → z.heap.get? b = some o) →
  (∀ (ob : Obj) (fp : List Addr) (Pv : Nat → Value → Prop) (St : Nat → Heap → Prop), (∀ A2 : Around, A2.handled = none → Walks P w A2 z.heap.objs.size fp [z.heap.objs.size] vs.length Pv St) → (∀ b ∈ fp, b = z.heap.objs.size ∨ b < s.heap.objs.size) → St 0 (z.heap.push ob) →
    (∀ i v, Pv i v → ∃ k, vs[i]? = some k ∧ (mixKind P w).is k v = true) → Q' (.ref z.heap.objs.size) { z with heap := z.heap.push ob }) → wpAny (model P w) A' (pyIter x) Q' E' z
set_option maxRecDepth 100000 in
set_option maxHeartbeats 3200000 in
theorem set_of_any {x : Value} {T : String} (vs : List Key) {Q : Value → Shared → Prop} (hh : A.handled = none) (hT : ∀ z : Shared, (∀ b o, s.heap.get? b = some o → z.heap.get? b = some o) → z.TypeIs x T) (hs1 : isSubtype (.type T) (.type "set") = pure false) (hs2 : isSubtype (.type T) (.type "frozenset") = pure false) (hs3 : (Value.type T == Value.type "dict") = false)
    (hb : vs.length + 1 < scanBound) (hg : Gives P w s x vs)
    (h : ∀ (h' : Heap) (tk : Nat) (us : List Key), SetX P w h' s.heap.objs.size us → us.length ≤ vs.length → (∀ j, j ∈ us ↔ j ∈ vs) → (∀ b o, s.heap.get? b = some o → h'.get? b = some o) → Q (.ref s.heap.objs.size) { s with heap := h', toks := tk }) :
    wpAny (model P w) A (call (.type "set") [x]) Q E s := by
  obtain ⟨c, tl, hmro⟩ := F.called_set.mro
  have hmade := F.called_set.made
  have hsub := F.called_set.sub
  refine wpAny_call (codeAny_of_tree ?_)
  refine wpAny_pure ⟨Code.quiet_builtin _ (by decide +kernel), codeAny_builtin F.entry_type_call ?_⟩
  rw [Around.under_plain (weight_type_call_type "set" [x] []) rfl]
  have h1 := F.called_set.notType
  have h2 := F.called_set.canCreate
  have hct := F.typeCall_set_1 x
  repeat (any_goals (first | assumption | wp_step))
  refine codeAny_mono (code_set_led1 x (E := E) (Q₁ := fun obj z => obj = .ref s.heap.objs.size ∧ z = { s with heap := s.heap.push (setO0 w) }) ⟨rfl, rfl⟩) fun r z hr => ?_
  cases r with
  | error e => exact hr
  | ok fl =>
    cases fl with
    | ret obj =>
      obtain ⟨rfl, rfl⟩ := hr
      have hS : (s.heap.push (setO0 w)).get? s.heap.objs.size = some (setO0 w) := Heap.get?_push_size _ rfl
      have hT0 : Shared.TypeIs { s with heap := s.heap.push (setO0 w) } (.ref s.heap.objs.size) "set" := ⟨_, hS, rfl⟩
      have hli := F.called_set.init.lookup
      have hbi := F.called_set.init.bind (.ref s.heap.objs.size)
      repeat (any_goals (first | assumption | wp_step))
      refine codeAny_mono (codeAny_call_builtin (R := wants (fun r z2 => r = .none ∧ ∃ h' tk us, z2 = { s with heap := h', toks := tk } ∧ SetX P w h' s.heap.objs.size us ∧ us.length ≤ vs.length ∧ (∀ j, j ∈ us ↔ j ∈ vs) ∧
          (∀ b o, s.heap.get? b = some o → h'.get? b = some o)) E) F.called_set.init.plain F.entry_set_init (check_set_init_1 hT0 ?_)) fun r2 z2 hr2 => ?_
      · have hTx : Shared.TypeIs { s with heap := s.heap.push (setO0 w) } x T := hT _ fun b o e => Heap.get?_push_of_some _ e
        have hgx := hg { s with heap := s.heap.push (setO0 w) }
        unfold Builtin.«set.__init__» noKeywords Builtin.Frozenset.updateFrom
        generalize hPI : pyIter = PI at hgx ⊢
        wp_walk
        subst hPI
        refine hgx _ _ _ (fun b o e => Heap.get?_push_of_some _ e) fun ob fp Pv St hW hfp hst hval => ?_
        refine wpAny_bind (wpAny_runValue ?_)
        have hh3 : A.in1.in1.in1.handled = none := by simp [hh]
        have hSf : s.heap.objs.size ∉ fp := fun q => by
          have z : (s.heap.push (setO0 w)).objs.size = s.heap.objs.size + 1 := Heap.size_push ..
          rcases hfp _ q with e | e
          · rw [z] at e; exact absurd e (Nat.ne_of_lt (Nat.lt_succ_self _))
          · exact absurd e (Nat.lt_irrefl _)
        have h0 : ((s.heap.push (setO0 w)).push ob).get? s.heap.objs.size = some (setO0 w) := Heap.get?_push_of_some _ hS
        refine setX_loop ((hW _ hh3).toS) s.heap.objs.size hSf vs rfl hb hval (vs.length - 0) 0 _ (by omega) (Nat.zero_le _) hst ⟨[], setX_fresh h0, Nat.le_refl _, fun j => by simp⟩ fun z us mv hX hl hm => ?_
        obtain ⟨h', g2, d', tk', os'⟩ := z
        have eg : g2 = s.gens := mv.gens
        have ed : d' = s.drawn := mv.drawn
        have eo : os' = s.os := mv.os
        subst eg ed eo
        refine wpAny_pure (wpAny_pure ⟨rfl, h', tk', us, rfl, hX, hl, hm, fun b o e => ?_⟩)
        have hb0 : b < s.heap.objs.size := Heap.lt_size e
        refine mv.heap b o (fun q => ?_) (Heap.get?_push_of_some _ (Heap.get?_push_of_some _ e))
        rcases List.mem_cons.mp q with e1 | q
        · rw [e1] at hb0; exact absurd hb0 (Nat.lt_irrefl _)
        · have e1 := List.mem_singleton.mp q
          have z : (s.heap.push (setO0 w)).objs.size = s.heap.objs.size + 1 := Heap.size_push ..
          rw [e1, z] at hb0
          exact absurd hb0 (Nat.not_lt_of_le (Nat.le_succ _))
      · cases r2 with
        | error e => exact hr2
        | ok fl2 =>
          cases fl2 with
          | ret r =>
            obtain ⟨rfl, h', tk, us, rfl, c1, c2, c3, c4⟩ := hr2
            repeat (any_goals (first | assumption | wp_step))
            exact h _ _ _ c1 c2 c3 c4
          | _ => exact hr2.elim
    | _ => exact hr.elim
end
end MN
/-! sorted(set) of texts; set(x), sorted(set) over the layer; in by an own __contains__ -/
namespace MN
open PySem PySem.Spec PyProof.Rows L2
section
variable {P : Program} {w : World} {A : Around} {E : Value → Shared → Prop} {s : Shared}
/-- sorted(set) of texts -/
theorem strs_of_keys : ∀ (l : List Value) (ks : List Key) (zs : List Str), l.map (fun v => kOf (0, v)) = ks → ks = zs.map Sum.inr → (∀ v ∈ l, ∃ k, (mixKind P w).is k v = true) → StrsAre l zs
  | [], _, [], _, _, _ => .nil
  | [], _, _ :: _, e1, e2, _ => by rw [← e1] at e2; cases e2
  | _ :: _, _, [], e1, e2, _ => by rw [← e1] at e2; cases e2
  | v :: l, _, z :: zs, e1, e2, h => by
    subst e1
    injection e2 with e3 e4
    obtain ⟨k, hk⟩ := h v List.mem_cons_self
    have e3' : kOf (0, v) = Sum.inr z := e3
    rw [keyIs_kOf hk] at e3'
    clear e3
    subst e3'
    rcases keyIs_shape (show keyIs (Sum.inr z) v = true from hk) with ⟨i, u, e, _⟩ | ⟨z', u, e, rfl⟩
    · cases e
    · cases e
      exact .cons _ _ (strs_of_keys l _ zs rfl e4 fun v hv => h v (List.mem_cons_of_mem _ hv))
theorem map_inr : ∀ (ks : List Key) (zs : List Str), (∀ k ∈ ks, ∃ z, k = Sum.inr z ∧ z ∈ zs) → ∃ ys : List Str, ks = ys.map Sum.inr
  | [], _, _ => ⟨[], rfl⟩
  | k :: ks, zs, h => by
    obtain ⟨z, rfl, _⟩ := h k List.mem_cons_self
    obtain ⟨ys, e⟩ := map_inr ks zs fun k hk => h k (List.mem_cons_of_mem _ hk)
    exact ⟨z :: ys, by rw [e]; rfl⟩
theorem sorted_setX {a : Addr} {ks : List Key} {zs : List Str} {Q : Value → Shared → Prop} (R : SetX P w s.heap a ks) (e : ks = zs.map Sum.inr) (hh : A.handled = none) (h64 : zs.length < 64)
    (hQ : ∀ (z : Shared) (p : Addr) (out : Array Value) (c : Nat) (ys : List Str), (∀ b o, s.heap.get? b = some o → z.heap.get? b = some o) → z.gens = s.gens → z.os = s.os → s.heap.objs.size ≤ p → z.heap.get? p = some (seqObj "list" out c) → StrsAre out.toList ys → ys.Perm zs → sortedS ys = true → Q (.ref p) z) :
    wpAny (model P w) A (call (.builtin "sorted") [.ref a]) Q E s := by
  obtain ⟨o, es, ep, t, ho, hx, hd, g, pm, nd, hb, hf, hr, hl⟩ := R
  refine Calls.call_function_entry kind_sorted plain_sorted entry_sorted (args_sorted1 _) ?_
  unfold Builtin.«sorted»
  refine wpAny_bind (m := checkCount "sorted" 1 1 _) (wpAny_pure (wpAny_bind (collect_set (A := A.in1) hh ⟨o, ho, hx.1, hd⟩ hf hb hr hl fun z vs k1 hz g1 o1 pv => ?_)))
  have pk : (vs.map fun v => kOf (0, v)).Perm ks := by
    have q := pv.map fun v => kOf (0, v)
    rw [List.map_map] at q
    exact q.trans pm
  obtain ⟨xs, ex⟩ := map_inr (vs.map fun v => kOf (0, v)) zs fun k hk => by
    have hk' := pk.mem_iff.mp hk
    rw [e] at hk'
    obtain ⟨y, hy, rfl⟩ := List.mem_map.mp hk'
    exact ⟨y, rfl, hy⟩
  have px : xs.Perm zs := by
    rw [ex, e] at pk
    have q := pk.map fun k : Key => match k with | .inr z => z | .inl _ => Str.empty
    rw [List.map_map, List.map_map] at q
    have i : ((fun k : Key => match k with | .inr z => z | .inl _ => Str.empty) ∘ Sum.inr) = (id : Str → Str) := rfl
    rw [i, List.map_id, List.map_id] at q
    exact q
  have hS : StrsAre vs xs := strs_of_keys (P := P) (w := w) vs _ xs rfl ex fun v hv => by
    obtain ⟨e0, he0, rfl⟩ := List.mem_map.mp (pv.mem_iff.mp hv)
    exact ⟨_, (g e0 he0).1⟩
  have hvl : vs.length = zs.length := by
    have q := pk.length_eq
    rw [List.length_map, e, List.length_map] at q
    exact q
  refine wpAny_bind (wpAny_newList ?_ (by rw [hvl, sizeLine_eq]; omega))
  have hoL : (z.heap.push (seqObj "list" vs.toArray 0)).get? z.heap.objs.size = some (seqObj "list" vs.toArray 0) := Heap.get?_push_size _ rfl
  refine wpAny_bind (wpAny_holding (wpAny_call_entry slot_list_sort ⟨_, hoL, rfl⟩ entry_list_sort (list_sort_treeK strKind_oneLt hoL hS.keysOf (fun v1 v2 rest q => keyKind_strs (by rw [← q]; exact hS)) (by rw [hvl]; exact h64) fun st hp hs => ⟨_, rfl, ?_⟩) (args_list_sort _)))
  obtain ⟨ys, y1, y2, y3⟩ := sorted_out_str hS hp hs
  obtain ⟨c, hc⟩ := sortedHeap_at (vs := vs) (out := (arrOf st).map (·.2)) hoL
  refine wpAny_pure ⟨_, rfl, hQ _ z.heap.objs.size _ c ys (fun b u q => ?_) g1 o1 hz hc y1 (y2.trans px) y3⟩
  have q1 := k1 b u q
  have lt := Heap.lt_size q1
  show (sortedHeap (z.heap.push (seqObj "list" vs.toArray 0)) z.heap.objs.size vs _).get? b = some u
  rw [sortedHeap_old (Nat.ne_of_lt lt) (by rw [size_push']; exact Nat.lt_succ_of_lt lt)]
  exact Heap.get?_push_of_some _ q1
end
/-! ### over the layer -/
def SetXO (P : Program) (w : World) (a : Addr) (ks : List Key) : HO := .ext fun h => SetX P w h a ks
theorem setXO_new {w : World} {P : Program} {H : Hp} {h : Heap} {a : Addr} {ks : List Key} (R : SetX P w h a ks) : ObjOk P w H h a (SetXO P w a ks) := by
  have ⟨o, _, _, _, ho, _⟩ := R
  exact ⟨R, ⟨o, ho⟩, fun h1 h2 p k => SetX.at p k⟩
section
variable {X : Cx} {pins : List (Addr × Obj)} {σ : L2.St} {H : Hp} {s : Shared}
theorem setXO_get {a : Addr} {ks : List Key} (I : L2.Inv X pins σ H s) (ha : H a = some (SetXO X.prog X.w a ks)) : SetX X.prog X.w s.heap a ks := (I.hok a _ ha).1
def signKeys (z : Str) : List Key := z.cps.toList.map fun c => Sum.inr ⟨#[c]⟩
theorem gives_str (z : Str) (t : Tok) : Gives X.prog X.w s (.str z t) (signKeys z) := by
  intro z2 A' E' Q' hk hQ
  refine wpAny_pyIter_str fun o St hW hst => hQ o _ (SignAt z) St (fun A2 h2 => ?_) (fun b hb => .inl (List.mem_singleton.mp hb)) hst fun i v ⟨c, u, h1, h2⟩ => ⟨Sum.inr ⟨#[c]⟩, ?_, ?_⟩
  · have e : (signKeys z).length = z.cps.size := by simp [signKeys]
    rw [e]
    exact hW A2 h2
  · simp [signKeys, h1]
  · subst h2
    exact keyIs_str _ u
theorem gives_list {l : Addr} {ks : List Key} (I : L2.Inv X pins σ H s) (hl : SqL X.K H l (ks.map kV)) : Gives X.prog X.w s (.ref l) ks := by
  obtain ⟨its, rv, pl, _⟩ := I.list hl
  intro z2 A' E' Q' hk hQ
  obtain ⟨ol, hol, hcl, nl, hdl⟩ := pl.isList
  have lt : l < s.heap.objs.size := Heap.lt_size hol
  have lz : l < z2.heap.objs.size := Heap.lt_size (hk _ _ hol)
  have pl2 : z2.heap.IsList l its.toArray := ⟨ol, hk _ _ hol, hcl, nl, hdl⟩
  have e : its.toArray.size = ks.length := by have := rv.length; simp at this ⊢; omega
  refine wpAny_pyIter_list pl2 (hQ _ [z2.heap.objs.size, l] (fun i v => its.toArray[i]? = some v) _ (fun A2 h2 => e ▸ Walks.list h2 _ l (Nat.ne_of_lt lz) its.toArray) (fun b hb => ?_) ⟨⟨_, Heap.get?_push_size _ rfl, rfl, rfl⟩, pl2.push _⟩ fun i v hv => ?_)
  · rcases List.mem_cons.mp hb with e | hb
    · exact .inl e
    · exact .inr (by rw [List.mem_singleton.mp hb]; exact lt)
  · have hv' : its[i]? = some v := by simpa using hv
    have hi : i < ks.length := by
      have h1 := (List.getElem?_eq_some_iff.mp hv').1
      have h2 := rv.length
      rw [List.length_map] at h2
      omega
    obtain ⟨u, h1, r⟩ := Vals.get (x := kV ks[i]) rv (by rw [List.getElem?_map, List.getElem?_eq_getElem hi]; rfl)
    rw [hv'] at h1
    cases h1
    refine ⟨ks[i], List.getElem?_eq_getElem hi, ?_⟩
    show keyIs ks[i] v = true
    cases e2 : ks[i] with
    | inl n =>
      rw [e2] at r
      obtain ⟨t, rfl⟩ := (show ∃ t, v = Value.int n t from r)
      exact keyIs_int _ _
    | inr z =>
      rw [e2] at r
      obtain ⟨t, rfl⟩ := (show ∃ t, v = Value.str z t from r)
      exact keyIs_str _ _
end
/-- what set(x) takes: a text, or a list of keys -/
def KeysIn (K : PySem.W.Frag) (H : Hp) (x : V) (ks : List Key) : Prop := (∃ z : Str, x = .str z ∧ ks = signKeys z) ∨ ∃ l, x = .ref l ∧ SqL K H l (ks.map kV)
section
variable {X : Cx}
theorem cr_setX (hc : X.calm = true) : CallR X (.type "set") (fun vs H Q => ∃ x ks, vs = [x] ∧ KeysIn X.K H x ks ∧ ks.length ≤ 4000 ∧ ∀ p us, us.Nodup → us.length ≤ ks.length → (∀ j, j ∈ us ↔ j ∈ ks) → H p = none → Q (.ref p) (upd H p (SetXO X.prog X.w p us))) := by
  intro pins s σ H vs us Q I r h
  obtain ⟨x, ks, rfl, hx, hl, q⟩ := h
  obtain ⟨u, rfl, ru⟩ := vals1 r
  have hb : ks.length + 1 < scanBound := by unfold scanBound; omega
  have go : ∀ (h' : Heap) (tk : Nat) (us : List Key), SetX X.prog X.w h' s.heap.objs.size us → us.length ≤ ks.length → (∀ j, j ∈ us ↔ j ∈ ks) → (∀ b o, s.heap.get? b = some o → h'.get? b = some o) → EP X pins σ Q (.ref s.heap.objs.size) { s with heap := h', toks := tk } := fun h' tk us c1 c2 c3 c4 => by
    have nd : us.Nodup := by obtain ⟨_, _, _, _, _, _, _, _, _, nd, _⟩ := c1; exact nd
    exact ⟨.ref _, _, I.laid c4 (Nat.le_refl _) (setXO_new c1), rfl, q _ us nd c2 c3 (I.hok.fresh (Nat.le_refl _))⟩
  rcases hx with ⟨z, rfl, rfl⟩ | ⟨l, rfl, hl2⟩
  · obtain ⟨t, rfl⟩ := (show ∃ t, u = Value.str z t from ru)
    exact set_of_any (signKeys z) (I.ok.hd hc) (fun z2 _ => typeIs_str _ _ _) F.sub_str_set F.sub_str_frozenset (by decide) hb (gives_str z t) go
  · cases (show u = Value.ref l from ru)
    obtain ⟨its, rv, pl, _⟩ := I.list hl2
    obtain ⟨ol, hol, hcl, _⟩ := pl.isList
    exact set_of_any ks (I.ok.hd hc) (fun z2 k => ⟨ol, k _ _ hol, hcl⟩) F.sub_list_set F.sub_list_frozenset (by decide) hb (gives_list I hl2) go
theorem cr_sortedX (hc : X.calm = true) : CallR X (.builtin "sorted") (fun vs H Q => ∃ (a : Addr) (zs : List Str), vs = [.ref a] ∧ H a = some (SetXO X.prog X.w a (zs.map Sum.inr)) ∧ zs.length < 64 ∧ ∀ ys p, ys.Perm zs → sortedS ys = true → H p = none → Q (.ref p) (upd H p (.lst (ys.map V.str)))) := by
  intro pins s σ H vs us Q I r h
  obtain ⟨a, zs, rfl, ha, h64, q⟩ := h
  rw [Vals.ref1 r]
  refine sorted_setX (setXO_get I ha) rfl (I.ok.hd hc) h64 fun z p out c ys k g o hp hg hi hy hs => ?_
  have hlen : (ys.map V.str).length ≤ sizeLine := by rw [List.length_map, hy.length_eq, sizeLine_eq]; omega
  have hn : H p = none := I.hok.fresh hp
  have J : L2.Inv X pins σ (upd H p (.lst (ys.map V.str))) { s with heap := z.heap, gens := z.gens, drawn := z.drawn, toks := z.toks } :=
    I.call (ch := []) (Un.laid k hp hn) (I.hok.laid k hp ⟨hlen, out.toList, c, vals_of_strs hi, hg⟩) (by rw [g]; exact I.bare) (fun _ z => nomatch z)
  have e : z = { s with heap := z.heap, gens := z.gens, drawn := z.drawn, toks := z.toks } := by
    cases z
    cases s
    cases o
    rfl
  rw [e]
  exact ⟨.ref p, _, J, rfl, q ys p hy hs hn⟩
end
/-! ### in, not in by an own __contains__ -/
section
variable {prog : Program} {w : World} {A : Around} {E : Value → Shared → Prop} {s : Shared} {K : PySem.W.Frag} {x C f : Addr} {ox : Obj} {od : Option Obj}
theorem contains_own {y : Value} {Q : Bool → Shared → Prop} (X : K.In s.heap) (I : PySem.W.InstAt s.heap x ox C od) (hs : PySem.W.findIn K (.ref C) "__contains__" = some (some (.ref f))) (hf : PySem.W.isFn K (.ref f) = true)
    (h : wpAny (model prog w) A (call (.ref f) [.ref x, y]) (fun v z => ∃ b, v = .bool b ∧ Q b z) E s) : wpAny (model prog w) A (contains (.ref x) y) Q E s := by
  unfold contains
  refine wpAny_holding ?_
  have hst : stdlibNamesSay? (.ref x) y = none := rfl
  rw [hst]
  dsimp only
  refine wpAny_bind (m := specialOf (.ref x) (Str.ofString "__contains__")) (wpAny_bind (I.type.here ((PySem.W.looks_findIn X hs).here ?_)))
  rw [if_neg (by intro q; cases q)]
  refine wpAny_bind (m := callSpecialUnlessNone? (.ref x) (Str.ofString "__contains__") [y] _) ?_
  unfold callSpecialUnlessNone?
  refine wpAny_bind (m := specialOf (.ref x) (Str.ofString "__contains__")) (wpAny_bind (I.type.here ((PySem.W.looks_findIn X hs).here ?_)))
  refine wpAny_holding (wpAny_bind ((PySem.W.bind_fn X _ (beq_iff_eq.mp hf)).here ?_))
  dsimp only
  rw [if_neg (by intro q; cases q)]
  refine wpAny_bind (wpAny_mono h (fun v z q => wpAny_pure ?_) fun _ _ q => q)
  obtain ⟨b, rfl, q⟩ := q
  exact wpAny_truthy_bool q
end
section
variable {X : Cx} {CX : CXT} {n : Nat} {C g : Addr} {sp : Sp} {E : XK}
def rInOwn (C : Addr) (sp : Sp) (E : XK) (neg : Bool) : V → V → Hp → VK → Prop := fun y x H Q => ∃ a dx vs, x = V.ref a ∧ SlX.Slt H a C dx vs ∧ sp [.ref a, y] H (fun z H' => ∃ b, z = .bl b ∧ Q (.bl (if neg then !b else b)) H') E
theorem op_notInOwn (hs : PySem.W.findIn X.K (.ref C) "__contains__" = some (some (.ref g))) (hf : PySem.W.isFn X.K (.ref g) = true) (F : FnR X.prog X.w X.K X.mg X.base CX n g sp) (hr : Room n X.A) (hx : Passes CX X E) : OpR X (compareOp .NotIn) (rInOwn C sp E true) := by
  intro pins s σ H y x v u Q I ry rx h
  obtain ⟨a, dx, vs, rfl, ha, q⟩ := h
  cases (show u = Value.ref a from rx)
  obtain ⟨sl, od, _, J, _⟩ := SlX.slt_inst I ha
  refine wpAny_bind (m := contains (.ref a) v) (contains_own I.kIn J hs hf (wpAny_mono (wpAny_call (run_fnR (us := [.ref a, v]) (vs := [.ref a, y]) F hr hx I (.cons rfl (.cons ry .nil)) q)) (fun w s' z => ?_) fun _ _ x => x))
  obtain ⟨z', H', I', rz, b, rfl, qz⟩ := z
  cases (show w = Value.bool b from rz)
  exact ⟨b, rfl, wpAny_pure ⟨.bl (!b), H', I', rfl, qz⟩⟩
theorem op_inOwn (hs : PySem.W.findIn X.K (.ref C) "__contains__" = some (some (.ref g))) (hf : PySem.W.isFn X.K (.ref g) = true) (F : FnR X.prog X.w X.K X.mg X.base CX n g sp) (hr : Room n X.A) (hx : Passes CX X E) : OpR X (compareOp .In) (rInOwn C sp E false) := by
  intro pins s σ H y x v u Q I ry rx h
  obtain ⟨a, dx, vs, rfl, ha, q⟩ := h
  cases (show u = Value.ref a from rx)
  obtain ⟨sl, od, _, J, _⟩ := SlX.slt_inst I ha
  refine wpAny_bind (m := contains (.ref a) v) (contains_own I.kIn J hs hf (wpAny_mono (wpAny_call (run_fnR (us := [.ref a, v]) (vs := [.ref a, y]) F hr hx I (.cons rfl (.cons ry .nil)) q)) (fun w s' z => ?_) fun _ _ x => x))
  obtain ⟨z', H', I', rz, b, rfl, qz⟩ := z
  cases (show w = Value.bool b from rz)
  exact ⟨b, rfl, wpAny_pure ⟨.bl b, H', I', rfl, qz⟩⟩
end
end MN
/-! plain law of prices: closed prices (Floyd and Warshall), costs of changes by a table, a cheapest last change -/
namespace MN
abbrev Nd := Option Nat
/-- a node: no sign, or one of L -/
def InL (L : List Nat) (x : Nd) : Prop := ∀ a, x = some a → a ∈ L
theorem InL.no {L : List Nat} : InL L none := fun _ e => nomatch e
theorem InL.of {L : List Nat} {a : Nat} (h : a ∈ L) : InL L (some a) := fun _ e => by cases e; exact h
section
variable {L : List Nat} {r : Nd → Nd → Option Int}
inductive Path (L : List Nat) (r : Nd → Nd → Option Int) : Nd → Nd → Int → Prop
  | one {x y p} : InL L x → InL L y → r x y = some p → Path L r x y p
  | more {x y z t p} : Path L r x y t → InL L z → r y z = some p → Path L r x z (t + p)
theorem Path.cat {x y z : Nd} {s t : Int} (h1 : Path L r x y s) (h2 : Path L r y z t) : Path L r x z (s + t) := by
  induction h2 with
  | one _ hy e => exact h1.more hy e
  | more _ hz e ih => rw [← Int.add_assoc]; exact ih.more hz e
theorem Path.pos (hp : ∀ x y p, r x y = some p → 1 ≤ p) {x y : Nd} {t : Int} (h : Path L r x y t) : 1 ≤ t := by
  induction h with
  | one _ _ e => exact hp _ _ _ e
  | more _ _ e ih => have := hp _ _ _ e; omega
theorem Path.ends {x y : Nd} {t : Int} (h : Path L r x y t) : InL L x ∧ InL L y := by
  induction h with
  | one hx hy _ => exact ⟨hx, hy⟩
  | more _ hz _ ih => exact ⟨ih.1, hz⟩
/-- a table while it is being closed; M: the middles so far -/
structure Tb (L : List Nat) (r : Nd → Nd → Option Int) (M : Nd → Prop) (O : Nd → Nd → Option Int) : Prop where
  dg : ∀ x, O x x = none
  pa : ∀ x y t, O x y = some t → Path L r x y t
  le : ∀ x y p, InL L x → InL L y → r x y = some p → ∃ t, O x y = some t ∧ t ≤ p
  tri : ∀ m x y a b, M m → x ≠ y → O x m = some a → O m y = some b → ∃ t, O x y = some t ∧ t ≤ a + b
/-- one middle -/
def ph (m : Nd) (O : Nd → Nd → Option Int) : Nd → Nd → Option Int := fun x y => if x = y then O x y else match O x m, O m y with
  | some a, some b => some (match O x y with | none => a + b | some t => min (a + b) t)
  | _, _ => O x y
variable {m : Nd} {O : Nd → Nd → Option Int}
theorem ph_one {x y : Nd} {t : Int} (h : O x y = some t) : ∃ t', ph m O x y = some t' ∧ t' ≤ t := by
  unfold ph
  split
  · exact ⟨t, h, Int.le_refl _⟩
  · split
    · rw [h]; exact ⟨_, rfl, Int.min_le_right _ _⟩
    · exact ⟨t, h, Int.le_refl _⟩
theorem ph_two {x y : Nd} {a b : Int} (n : x ≠ y) (h1 : O x m = some a) (h2 : O m y = some b) : ∃ t', ph m O x y = some t' ∧ t' ≤ a + b := by
  unfold ph
  rw [if_neg n, h1, h2]
  cases O x y with
  | none => exact ⟨_, rfl, Int.le_refl _⟩
  | some t => exact ⟨_, rfl, Int.min_le_left _ _⟩
theorem ph_or {x y : Nd} {t : Int} (h : ph m O x y = some t) : O x y = some t ∨ ∃ a b, x ≠ y ∧ O x m = some a ∧ O m y = some b ∧ t = a + b := by
  unfold ph at h
  split at h
  · exact .inl h
  · rename_i n
    split at h
    · rename_i a b e1 e2
      cases e : O x y with
      | none => rw [e] at h; exact .inr ⟨a, b, n, e1, e2, (Option.some.inj h).symm⟩
      | some t0 =>
        rw [e] at h
        have h' : min (a + b) t0 = t := Option.some.inj h
        rcases Int.le_total (a + b) t0 with q | q
        · rw [Int.min_eq_left q] at h'; exact .inr ⟨a, b, n, e1, e2, h'.symm⟩
        · rw [Int.min_eq_right q] at h'; rw [h']; exact .inl rfl
    · exact .inl h
theorem Tb.phase {M : Nd → Prop} (hp : ∀ x y p, r x y = some p → 1 ≤ p) (T : Tb L r M O) : Tb L r (fun z => M z ∨ z = m) (ph m O) := by
  have po : ∀ {x y t}, O x y = some t → 1 ≤ t := fun h => (T.pa _ _ _ h).pos hp
  refine ⟨fun x => ?_, fun x y t h => ?_, fun x y p hx hy h => ?_, fun k x y a b hk n h1 h2 => ?_⟩
  · unfold ph; rw [if_pos rfl]; exact T.dg x
  · rcases ph_or h with h | ⟨a, b, _, h1, h2, rfl⟩
    · exact T.pa _ _ _ h
    · exact (T.pa _ _ _ h1).cat (T.pa _ _ _ h2)
  · obtain ⟨t, e, l⟩ := T.le x y p hx hy h
    obtain ⟨t', e', l'⟩ := ph_one (m := m) e
    exact ⟨t', e', by omega⟩
  · rcases hk with hk | rfl
    · rcases ph_or h1 with h1' | ⟨a1, a2, _, e1, e2, rfl⟩
      · clear h1
        rcases ph_or h2 with h2' | ⟨b1, b2, _, f1, f2, rfl⟩
        · obtain ⟨t, e, l⟩ := T.tri k x y a b hk n h1' h2'
          obtain ⟨t', e', l'⟩ := ph_one (m := m) e
          exact ⟨t', e', by omega⟩
        · by_cases q : x = m
          · subst q
            obtain ⟨t', e', l'⟩ := ph_one (m := x) f2
            have := po h1'; have := po f1
            exact ⟨t', e', by omega⟩
          · obtain ⟨t, e, l⟩ := T.tri k x m a b1 hk q h1' f1
            obtain ⟨t', e', l'⟩ := ph_two (m := m) n e f2
            exact ⟨t', e', by omega⟩
      · rcases ph_or h2 with h2 | ⟨b1, b2, _, f1, f2, rfl⟩
        · by_cases q : m = y
          · subst q
            obtain ⟨t', e', l'⟩ := ph_one (m := m) e1
            have := po h2; have := po e2
            exact ⟨t', e', by omega⟩
          · obtain ⟨t, e, l⟩ := T.tri k m y a2 b hk q e2 h2
            obtain ⟨t', e', l'⟩ := ph_two (m := m) n e1 e
            exact ⟨t', e', by omega⟩
        · obtain ⟨t', e', l'⟩ := ph_two (m := m) n e1 f2
          have := po e2; have := po f1
          exact ⟨t', e', by omega⟩
    · have g1 : O x k = some a := by
        rcases ph_or h1 with h | ⟨_, _, _, _, e, _⟩
        · exact h
        · rw [T.dg k] at e; cases e
      have g2 : O k y = some b := by
        rcases ph_or h2 with h | ⟨_, _, _, e, _⟩
        · exact h
        · rw [T.dg k] at e; cases e
      exact ph_two n g1 g2
/-- closed prices -/
structure Clo (L : List Nat) (r : Nd → Nd → Option Int) (c : Nd → Nd → Int) : Prop where
  z : ∀ x, c x x = 0
  pos : ∀ x y, InL L x → InL L y → x ≠ y → 1 ≤ c x y
  tri : ∀ x y z, InL L x → InL L y → InL L z → c x z ≤ c x y + c y z
  le : ∀ x y p, InL L x → InL L y → r x y = some p → c x y ≤ p
  last : ∀ x y, InL L x → InL L y → x ≠ y → ∃ z p, InL L z ∧ z ≠ y ∧ r z y = some p ∧ c x y = c x z + p
def cOf (O : Nd → Nd → Option Int) : Nd → Nd → Int := fun x y => (O x y).getD 0
theorem Tb.clo (hp : ∀ x y p, r x y = some p → 1 ≤ p) (hr : ∀ a ∈ L, (∃ p, r none (some a) = some p) ∧ ∃ p, r (some a) none = some p) (T : Tb L r (InL L) O) : Clo L r (cOf O) ∧ ∀ x y, InL L x → InL L y → x ≠ y → ∃ t, O x y = some t := by
  have tot : ∀ x y, InL L x → InL L y → x ≠ y → ∃ t, O x y = some t := fun x y hx hy n => by
    cases x with
    | none =>
      cases y with
      | none => exact absurd rfl n
      | some b =>
        obtain ⟨p, e⟩ := (hr b (hy b rfl)).1
        obtain ⟨t, h, _⟩ := T.le _ _ p hx hy e
        exact ⟨t, h⟩
    | some a =>
      obtain ⟨p, e⟩ := (hr a (hx a rfl)).2
      obtain ⟨t, h, _⟩ := T.le _ _ p hx InL.no e
      cases y with
      | none => exact ⟨t, h⟩
      | some b =>
        obtain ⟨q, f⟩ := (hr b (hy b rfl)).1
        obtain ⟨u, g, _⟩ := T.le _ _ q InL.no hy f
        obtain ⟨v, k, _⟩ := T.tri none _ _ t u InL.no n h g
        exact ⟨v, k⟩
  have c0 : ∀ x, cOf O x x = 0 := fun x => by unfold cOf; rw [T.dg x]; rfl
  have cv : ∀ {x y t}, O x y = some t → cOf O x y = t := fun e => by unfold cOf; rw [e]; rfl
  have tri : ∀ x y z, InL L x → InL L y → InL L z → cOf O x z ≤ cOf O x y + cOf O y z := fun x y z hx hy hz => by
    by_cases h1 : x = y
    · subst h1; rw [c0 x]; omega
    · by_cases h2 : y = z
      · subst h2; rw [c0 y]; omega
      · obtain ⟨a, ea⟩ := tot x y hx hy h1
        obtain ⟨b, eb⟩ := tot y z hy hz h2
        have pa := (T.pa _ _ _ ea).pos hp
        have pb := (T.pa _ _ _ eb).pos hp
        rw [cv ea, cv eb]
        by_cases h3 : x = z
        · subst h3; rw [c0 x]; omega
        · obtain ⟨t, et, lt⟩ := T.tri y x z a b hy h3 ea eb
          rw [cv et]; exact lt
  have le : ∀ x y p, InL L x → InL L y → r x y = some p → cOf O x y ≤ p := fun x y p hx hy e => by
    obtain ⟨t, et, lt⟩ := T.le x y p hx hy e
    rw [cv et]; exact lt
  refine ⟨⟨c0, fun x y hx hy n => ?_, tri, le, fun x y hx hy n => ?_⟩, tot⟩
  · obtain ⟨t, e⟩ := tot x y hx hy n
    rw [cv e]
    exact (T.pa _ _ _ e).pos hp
  · obtain ⟨t, e⟩ := tot x y hx hy n
    have lt : ∀ {z u}, Path L r x z u → cOf O x z ≤ u := fun h => by
      induction h with
      | one hx hy e => exact le _ _ _ hx hy e
      | more hh hz e ih =>
        have h1 := tri _ _ _ hx hh.ends.2 hz
        have h2 := le _ _ _ hh.ends.2 hz e
        omega
    have rn : ∀ {z q}, r z y = some q → InL L z → z ≠ y := fun {z q} e hz q' => by
      subst q'
      obtain ⟨t, et, _⟩ := T.le _ _ _ hz hz e
      rw [T.dg] at et; cases et
    rw [cv e]
    cases T.pa _ _ _ e with
    | one _ _ e' => exact ⟨x, t, hx, n, e', by rw [c0 x]; omega⟩
    | more hh hz2 e' =>
      rename_i z s p
      have h1 := lt hh
      have h2 := tri x z y hx hh.ends.2 hy
      have h3 := le z y p hh.ends.2 hy e'
      rw [cv e] at h2
      exact ⟨z, p, hh.ends.2, rn e' hh.ends.2, e', by omega⟩
/-- closed prices are closed -/
theorem Clo.same {c c' : Nd → Nd → Int} (C : Clo L r c) (C' : Clo L (fun x y => if x = y then none else some (c x y)) c') : ∀ x y, InL L x → InL L y → c' x y = c x y := by
  have key : ∀ (n : Nat) (x y : Nd), InL L x → InL L y → c' x y ≤ n → c x y ≤ c' x y := by
    intro n
    induction n with
    | zero =>
      intro x y hx hy h
      by_cases e : x = y
      · subst e; rw [C.z, C'.z]; exact Int.le_refl _
      · have := C'.pos x y hx hy e; omega
    | succ n ih =>
      intro x y hx hy h
      by_cases e : x = y
      · subst e; rw [C.z, C'.z]; exact Int.le_refl _
      · obtain ⟨z, p, hz, nz, er, ec⟩ := C'.last x y hx hy e
        have er' : (if z = y then none else some (c z y)) = some p := er
        rw [if_neg nz] at er'
        have ep : c z y = p := Option.some.inj er'
        have p1 := C.pos z y hz hy nz
        have h1 := ih x z hx hz (by omega)
        have h2 := C.tri x z y hx hz hy
        omega
  intro x y hx hy
  by_cases e : x = y
  · subst e; rw [C.z, C'.z]
  · have h1 : c' x y ≤ c x y := C'.le x y _ hx hy (by show (if x = y then none else some (c x y)) = _; rw [if_neg e])
    have h2 := key (c' x y).toNat x y hx hy (by have := C'.pos x y hx hy e; omega)
    omega
end
/-! ### costs -/
def Dc (c : Nd → Nd → Int) : List Nat → List Nat → Int
  | [], [] => 0
  | [], y :: v => Dc c [] v + c none (some y)
  | x :: u, [] => Dc c u [] + c (some x) none
  | x :: u, y :: v => min (min (Dc c u v + c (some x) (some y)) (Dc c u (y :: v) + c (some x) none)) (Dc c (x :: u) v + c none (some y))
section
variable {L : List Nat} {r : Nd → Nd → Option Int} {c : Nd → Nd → Int}
theorem Dc_put (C : Clo L r c) (y : Nat) (u v : List Nat) : Dc c u (y :: v) ≤ Dc c u v + c none (some y) := by
  cases u with
  | nil => simp [Dc]
  | cons x u => simp only [Dc]; omega
theorem Dc_out (C : Clo L r c) (x : Nat) (u v : List Nat) : Dc c (x :: u) v ≤ Dc c u v + c (some x) none := by
  cases v with
  | nil => simp [Dc]
  | cons y v => simp only [Dc]; omega
theorem Dc_sub (C : Clo L r c) (x y : Nat) (u v : List Nat) : Dc c (x :: u) (y :: v) ≤ Dc c u v + c (some x) (some y) := by simp only [Dc]; omega
theorem Dc_or {x y : Nat} {u v : List Nat} : Dc c (x :: u) (y :: v) = Dc c u v + c (some x) (some y) ∨ Dc c (x :: u) (y :: v) = Dc c u (y :: v) + c (some x) none ∨ Dc c (x :: u) (y :: v) = Dc c (x :: u) v + c none (some y) := by
  simp only [Dc]; omega
theorem Dc_self (C : Clo L r c) : ∀ u, Dc c u u ≤ 0
  | [] => by simp [Dc]
  | x :: u => by have := Dc_sub C x x u u; have := Dc_self C u; rw [C.z] at *; omega
theorem Dc_nn (C : Clo L r c) : ∀ u v, (∀ a ∈ u, a ∈ L) → (∀ a ∈ v, a ∈ L) → 0 ≤ Dc c u v ∧ (Dc c u v = 0 → u = v)
  | [], [], _, _ => ⟨by simp [Dc], fun _ => rfl⟩
  | [], y :: v, hu, hv => by
    have h1 := (Dc_nn C [] v hu fun a h => hv a (List.mem_cons_of_mem _ h)).1
    have h2 := C.pos none (some y) InL.no (InL.of (hv y List.mem_cons_self)) (fun e => nomatch e)
    simp only [Dc]
    exact ⟨by omega, fun e => by omega⟩
  | x :: u, [], hu, hv => by
    have h1 := (Dc_nn C u [] (fun a h => hu a (List.mem_cons_of_mem _ h)) hv).1
    have h2 := C.pos (some x) none (InL.of (hu x List.mem_cons_self)) InL.no (fun e => nomatch e)
    simp only [Dc]
    exact ⟨by omega, fun e => by omega⟩
  | x :: u, y :: v, hu, hv => by
    have hu' : ∀ a ∈ u, a ∈ L := fun a h => hu a (List.mem_cons_of_mem _ h)
    have hv' : ∀ a ∈ v, a ∈ L := fun a h => hv a (List.mem_cons_of_mem _ h)
    have hx := InL.of (hu x List.mem_cons_self)
    have hy := InL.of (hv y List.mem_cons_self)
    have h1 := Dc_nn C u v hu' hv'
    have h2 := (Dc_nn C u (y :: v) hu' hv).1
    have h3 := (Dc_nn C (x :: u) v hu hv').1
    have p2 := C.pos (some x) none hx InL.no (fun e => nomatch e)
    have p3 := C.pos none (some y) InL.no hy (fun e => nomatch e)
    by_cases e : x = y
    · subst e
      rcases Dc_or (c := c) (x := x) (y := x) (u := u) (v := v) with q | q | q
      · rw [q, C.z]
        exact ⟨by omega, fun e => by rw [h1.2 (by omega)]⟩
      · rw [q]; exact ⟨by omega, fun e => by omega⟩
      · rw [q]; exact ⟨by omega, fun e => by omega⟩
    · have p1 := C.pos (some x) (some y) hx hy (fun q => e (Option.some.inj q))
      rcases Dc_or (c := c) (x := x) (y := y) (u := u) (v := v) with q | q | q
      · rw [q]; exact ⟨by omega, fun e => by omega⟩
      · rw [q]; exact ⟨by omega, fun e => by omega⟩
      · rw [q]; exact ⟨by omega, fun e => by omega⟩
/-- one change at some place, by the prices f -/
inductive Chg (L : List Nat) (f : Nd → Nd → Option Int) : List Nat → List Nat → Int → Prop
  | put {y v s} : y ∈ L → f none (some y) = some s → Chg L f v (y :: v) s
  | out {y v s} : y ∈ L → f (some y) none = some s → Chg L f (y :: v) v s
  | swp {y z v s} : y ∈ L → z ∈ L → f (some y) (some z) = some s → Chg L f (y :: v) (z :: v) s
  | cons {y v w s} : Chg L f v w s → Chg L f (y :: v) (y :: w) s
theorem Dc_end (C : Clo L r c) {y z : Nd} {s : Int} (hy : InL L y) (hz : InL L z) (h : c y z ≤ s) : ∀ u v, (∀ a ∈ u, a ∈ L) → Dc c u (z.toList ++ v) ≤ Dc c u (y.toList ++ v) + s := by
  have h0 : 0 ≤ c y z := by
    by_cases e : y = z
    · subst e; rw [C.z]; exact Int.le_refl _
    · have := C.pos y z hy hz e; omega
  cases y with
  | none =>
    cases z with
    | none => intro u v _; simp; omega
    | some z =>
      intro u v _
      have := Dc_put C z u v
      simp at this ⊢; omega
  | some y =>
    intro u
    induction u with
    | nil =>
      intro v _
      cases z with
      | none =>
        show Dc c [] v ≤ Dc c [] (y :: v) + s
        have := C.pos none (some y) InL.no hy (fun e => nomatch e)
        simp only [Dc]; omega
      | some z =>
        show Dc c [] (z :: v) ≤ Dc c [] (y :: v) + s
        have := C.tri none (some y) (some z) InL.no hy hz
        simp only [Dc]; omega
    | cons x u ih =>
      intro v hu
      have hx := InL.of (hu x List.mem_cons_self)
      have hu' : ∀ a ∈ u, a ∈ L := fun a h => hu a (List.mem_cons_of_mem _ h)
      have i1 := ih v hu'
      cases z with
      | none =>
        show Dc c (x :: u) v ≤ Dc c (x :: u) (y :: v) + s
        have i1' : Dc c u v ≤ Dc c u (y :: v) + s := i1
        have o1 := Dc_out C x u v
        rcases Dc_or (c := c) (x := x) (y := y) (u := u) (v := v) with q | q | q
        · have := C.tri (some x) (some y) none hx hy InL.no; omega
        · omega
        · have := C.pos none (some y) InL.no hy (fun e => nomatch e); omega
      | some z =>
        show Dc c (x :: u) (z :: v) ≤ Dc c (x :: u) (y :: v) + s
        have i1' : Dc c u (z :: v) ≤ Dc c u (y :: v) + s := i1
        have o1 := Dc_out C x u (z :: v)
        have o2 := Dc_sub C x z u v
        have o3 := Dc_put C z (x :: u) v
        rcases Dc_or (c := c) (x := x) (y := y) (u := u) (v := v) with q | q | q
        · have := C.tri (some x) (some y) (some z) hx hy hz; omega
        · omega
        · have := C.tri none (some y) (some z) InL.no hy hz; omega
theorem Dc_in {v w : List Nat} {s : Int} (C : Clo L r c) (y : Nat) (hs : ∀ u, (∀ a ∈ u, a ∈ L) → Dc c u w ≤ Dc c u v + s) : ∀ u, (∀ a ∈ u, a ∈ L) → Dc c u (y :: w) ≤ Dc c u (y :: v) + s := by
  intro u
  induction u with
  | nil => intro hu; have := hs [] hu; simp only [Dc]; omega
  | cons x u ih =>
    intro hu
    have hu' : ∀ a ∈ u, a ∈ L := fun a h => hu a (List.mem_cons_of_mem _ h)
    have h1 := hs u hu'
    have h2 := hs (x :: u) hu
    have h3 := ih hu'
    have o1 := Dc_out C x u (y :: w)
    have o2 := Dc_sub C x y u w
    have o3 := Dc_put C y (x :: u) w
    rcases Dc_or (c := c) (x := x) (y := y) (u := u) (v := v) with q | q | q <;> omega
/-- a change changes a cost by at most its price -/
theorem Dc_lip (C : Clo L r c) {v w : List Nat} {s : Int} (h : Chg L r v w s) : ∀ u, (∀ a ∈ u, a ∈ L) → Dc c u w ≤ Dc c u v + s := by
  induction h with
  | @put y v s hy e => exact fun u hu => Dc_end C InL.no (InL.of hy) (C.le _ _ _ InL.no (InL.of hy) e) u v hu
  | @out y v s hy e => exact fun u hu => Dc_end C (InL.of hy) InL.no (C.le _ _ _ (InL.of hy) InL.no e) u v hu
  | @swp y z v s hy hz e => exact fun u hu => Dc_end C (InL.of hy) (InL.of hz) (C.le _ _ _ (InL.of hy) (InL.of hz) e) u v hu
  | @cons y v w s _ ih => exact Dc_in C y ih
/-- a cheapest way has a last change -/
theorem Dc_pre (C : Clo L r c) : ∀ u v, (∀ a ∈ u, a ∈ L) → (∀ a ∈ v, a ∈ L) → u ≠ v → ∃ w s, Chg L r w v s ∧ (∀ a ∈ w, a ∈ L) ∧ Dc c u w + s ≤ Dc c u v ∧ (w.length ≤ v.length ∨ (w.length = v.length + 1 ∧ v.length < u.length)) := by
  have putw : ∀ (u v : List Nat) (y : Nat), y ∈ L → (∀ a ∈ v, a ∈ L) → ∃ w s, Chg L r w (y :: v) s ∧ (∀ a ∈ w, a ∈ L) ∧ Dc c u w + s ≤ Dc c u v + c none (some y) ∧ w.length ≤ (y :: v).length := fun u v y hy hv => by
    obtain ⟨z, p, hz, nz, er, ec⟩ := C.last none (some y) InL.no (InL.of hy) (fun e => nomatch e)
    cases z with
    | none => exact ⟨v, p, .put hy er, hv, by rw [C.z] at ec; omega, Nat.le_succ _⟩
    | some z =>
      refine ⟨z :: v, p, .swp (hz z rfl) hy er, fun a ha => ?_, ?_, Nat.le_refl _⟩
      · rcases List.mem_cons.mp ha with rfl | ha
        · exact hz _ rfl
        · exact hv a ha
      · have := Dc_put C z u v; omega
  intro u
  induction u with
  | nil =>
    intro v hu hv n
    cases v with
    | nil => exact absurd rfl n
    | cons y v =>
      obtain ⟨w, s, h1, h2, h3, h4⟩ := putw [] v y (hv y List.mem_cons_self) fun a h => hv a (List.mem_cons_of_mem _ h)
      exact ⟨w, s, h1, h2, by simp only [Dc]; exact h3, .inl h4⟩
  | cons x u ih =>
    intro v
    induction v with
    | nil =>
      intro hu hv _
      have hx := hu x List.mem_cons_self
      have hu' : ∀ a ∈ u, a ∈ L := fun a h => hu a (List.mem_cons_of_mem _ h)
      by_cases e : u = []
      · subst e
        obtain ⟨z, p, hz, nz, er, ec⟩ := C.last (some x) none (InL.of hx) InL.no (fun e => nomatch e)
        cases z with
        | none => exact absurd rfl nz
        | some z =>
          refine ⟨[z], p, .out (hz z rfl) er, fun a ha => ?_, ?_, .inr ⟨rfl, Nat.zero_lt_succ _⟩⟩
          · rcases List.mem_cons.mp ha with rfl | ha
            · exact hz _ rfl
            · cases ha
          · have := Dc_sub C x z [] []; simp only [Dc] at this ⊢; omega
      · obtain ⟨w, s, h1, h2, h3, h4⟩ := ih [] hu' hv e
        refine ⟨w, s, h1, h2, ?_, h4.imp id fun q => ⟨q.1, by simp⟩⟩
        have := Dc_out C x u w; simp only [Dc]; omega
    | cons y v ihv =>
      intro hu hv n
      have hx := hu x List.mem_cons_self
      have hy := hv y List.mem_cons_self
      have hu' : ∀ a ∈ u, a ∈ L := fun a h => hu a (List.mem_cons_of_mem _ h)
      have hv' : ∀ a ∈ v, a ∈ L := fun a h => hv a (List.mem_cons_of_mem _ h)
      rcases Dc_or (c := c) (x := x) (y := y) (u := u) (v := v) with q | q | q
      · by_cases e : x = y
        · subst e
          have n' : u ≠ v := fun e => n (by rw [e])
          obtain ⟨w, s, h1, h2, h3, h4⟩ := ih v hu' hv' n'
          refine ⟨x :: w, s, .cons h1, fun a ha => ?_, ?_, h4.imp Nat.succ_le_succ fun q => ⟨by simp [q.1], by simp [q.2]⟩⟩
          · rcases List.mem_cons.mp ha with rfl | ha
            · exact hx
            · exact h2 a ha
          · have := Dc_sub C x x u w; rw [C.z] at *; omega
        · obtain ⟨z, p, hz, nz, er, ec⟩ := C.last (some x) (some y) (InL.of hx) (InL.of hy) (fun q => e (Option.some.inj q))
          cases z with
          | none =>
            refine ⟨v, p, .put hy er, hv', ?_, .inl (Nat.le_succ _)⟩
            have := Dc_out C x u v; omega
          | some z =>
            refine ⟨z :: v, p, .swp (hz z rfl) hy er, fun a ha => ?_, ?_, .inl (Nat.le_refl _)⟩
            · rcases List.mem_cons.mp ha with rfl | ha
              · exact hz _ rfl
              · exact hv' a ha
            · have := Dc_sub C x z u v; omega
      · by_cases e : u = y :: v
        · subst e
          obtain ⟨z, p, hz, nz, er, ec⟩ := C.last (some x) none (InL.of hx) InL.no (fun e => nomatch e)
          cases z with
          | none => exact absurd rfl nz
          | some z =>
            refine ⟨z :: y :: v, p, .out (hz z rfl) er, fun a ha => ?_, ?_, .inr ⟨rfl, by simp⟩⟩
            · rcases List.mem_cons.mp ha with rfl | ha
              · exact hz _ rfl
              · exact hv a ha
            · have := Dc_sub C x z (y :: v) (y :: v); omega
        · obtain ⟨w, s, h1, h2, h3, h4⟩ := ih (y :: v) hu' hv e
          refine ⟨w, s, h1, h2, ?_, h4.imp id fun q => ⟨q.1, by have := q.2; simp at this ⊢; omega⟩⟩
          have := Dc_out C x u w; omega
      · obtain ⟨w, s, h1, h2, h3, h4⟩ := putw (x :: u) v y hy hv'
        exact ⟨w, s, h1, h2, by omega, .inl h4⟩
end
end MN
/-! the draws of the laws k05 .. k09: _law_toss, _law_cup -/
namespace MN
open PySem PySem.Spec PyProof.Rows L2
section
variable {P : Program} {w : World} {K : PySem.W.Frag} {mg : Str → Option Value} {base : Heap}
abbrev N_law_toss : List Str := ["_law_cup_here", "_law_total", "_law_found", "_law_one", "_law_two", "_law_three"]
theorem sc_law_toss : FnScope N_law_toss ["_law_cup_here", "_law_total"] (defScope (top 36)) := ⟨rfl, rfl, rfl, by decide +kernel, rfl, by decide +kernel, by decide +kernel⟩
theorem c_law_toss (A : At K mg "_law_toss" (top 36)) (B : Blt mg) : Cal P w K mg base 1 "_law_toss" spDip := by
  refine cal_of A sc_law_toss (fun _ _ _ _ _ _ us hl => match us, hl with | [_, _], _ => rfl) (fun vs H Q E h => ?_) (fun _ cdv A outer s H vs Q E hr h => ?_)
  · obtain ⟨_, _, _, _, _, rfl, _⟩ := h; rfl
  · obtain ⟨p, n, a, b, c, rfl, hp, h0, h1, hQ⟩ := h
    refine ⟨_, (pss_cons (ps_if (pt_cmpR op_gt (pe_ix ix_list (pv 0) pe_int (fun _ _ => rfl)) pe_int (nomark _))
      (pss_cons (ps_set (i := 2) sc_law_toss.nd rfl (Or.inl rfl) (pe_op op_mod (pe_callTy call_int1 (by rfl) B.int (by decide +kernel) (pa_cons (pe_ix ix_list (pv 0) pe_int (fun _ _ => rfl)) pa_nil)) (pv 1)))
      (pss_cons (ps_asg (pe_op op_fdiv (pe_ix ix_list (pv 0) pe_int (fun _ _ => rfl)) (pv 1)) (pg_sub (pv 0) pe_int set_list))
      (pss_one (ps_ret (pv 2)))))
      pss_nil)
      (pss_cons (ps_asg (pe_op op_add (pe_ix ix_list (pv 0) pe_int (fun _ _ => rfl)) pe_int) (pg_sub (pv 0) pe_int set_list))
      (pss_cons (ps_set (i := 3) sc_law_toss.nd rfl (Or.inl rfl) (pe_op op_mod (pe_callTy call_int1 (by rfl) B.int (by decide +kernel) (pa_cons (pe_op op_add (pe_ix ix_list (pv 0) pe_int (fun _ _ => rfl)) (pe_op op_mul pe_int (pe_ix ix_list (pv 0) pe_int (fun _ _ => rfl)))) pa_nil)) pe_int))
      (pss_cons (ps_set (i := 4) sc_law_toss.nd rfl (Or.inl rfl) (pe_op op_mod (pe_callTy call_int1 (by rfl) B.int (by decide +kernel) (pa_cons (pe_op op_add (pe_op op_add (pe_op op_mul (pv 3) (pv 3)) (pe_op op_fdiv (pe_ix ix_list (pv 0) pe_int (fun _ _ => rfl)) pe_int)) (pe_op op_mul pe_int (pe_ix ix_list (pv 0) pe_int (fun _ _ => rfl)))) pa_nil)) pe_int))
      (pss_cons (ps_set (i := 5) sc_law_toss.nd rfl (Or.inl rfl) (pe_op op_mod (pe_callTy call_int1 (by rfl) B.int (by decide +kernel) (pa_cons (pe_op op_add (pe_op op_mul (pv 4) (pv 4)) (pv 3)) pa_nil)) pe_int))
      (pss_one (ps_ret (pe_op op_mod (pe_callTy call_int1 (by rfl) B.int (by decide +kernel) (pa_cons (pe_op op_fdiv (pv 5) pe_int) pa_nil)) (pv 1))))))))), ?_⟩
    refine ⟨_, rfl, p, _, _, _, rfl, rfl, SqL.of hp, rfl, _, _, rfl, rfl, _, rfl, ?_⟩
    refine ite2 (fun _ => ?_) (fun _ => ?_)
    · refine ⟨_, rfl, p, _, _, _, rfl, rfl, SqL.of hp, rfl, .inl ⟨_, rfl, _, rfl, _, _, rfl, rfl, h0, ?_⟩⟩
      refine ⟨_, rfl, p, _, _, _, rfl, rfl, SqL.of hp, rfl, _, rfl, _, _, rfl, rfl, ⟨h0, by omega⟩, _, rfl, p, _, _, 0, rfl, rfl, hp, rfl, ?_⟩
      exact ⟨_, rfl, hQ _ _ _ _ (Int.emod_nonneg _ (by omega)) (Int.emod_lt_of_pos _ h0)⟩
    · refine ⟨_, rfl, p, _, _, _, rfl, rfl, SqL.of hp, rfl, _, _, rfl, rfl, _, rfl, p, _, _, 2, rfl, rfl, hp, rfl, ?_⟩
      have hp1 : upd H p (.lst (List.set [V.int a, V.int b, V.int c] 2 (.int (c + 1)))) p = some (potO a b (c + 1)) := upd_same
      have hb : ∀ x : Int, -(2 ^ 64) < x % 1000000007 ∧ x % 1000000007 < 2 ^ 64 := fun x => by omega
      have hb2 : ∀ x : Int, -(2 ^ 64) < x % 998244353 ∧ x % 998244353 < 2 ^ 64 := fun x => by omega
      refine ⟨_, rfl, p, _, _, _, rfl, rfl, SqL.of hp1, rfl, _, rfl, p, _, _, _, rfl, rfl, SqL.of hp1, rfl, _, _, rfl, rfl, .inl ⟨by decide, by decide⟩, _, _, rfl, rfl, .inl ⟨_, rfl, _, _, rfl, rfl, (show (0 : Int) < 1000000007 by decide), ?_⟩⟩
      refine ⟨_, rfl, _, rfl, _, _, rfl, rfl, .inl (hb _), _, rfl, p, _, _, _, rfl, rfl, SqL.of hp1, rfl, _, _, rfl, rfl, ⟨by decide, by decide⟩, _, _, rfl, rfl, _, rfl, p, _, _, _, rfl, rfl, SqL.of hp1, rfl, _, _, rfl, rfl, .inl ⟨by decide, by decide⟩, _, _, rfl, rfl, .inl ⟨_, rfl, _, _, rfl, rfl, (show (0 : Int) < 998244353 by decide), ?_⟩⟩
      refine ⟨_, rfl, _, rfl, _, _, rfl, rfl, .inl (hb2 _), _, rfl, _, _, rfl, rfl, .inl ⟨_, rfl, _, _, rfl, rfl, (show (0 : Int) < 2147483629 by decide), ?_⟩⟩
      refine ⟨_, rfl, _, _, rfl, rfl, ⟨by decide, by decide⟩, .inl ⟨_, rfl, _, rfl, _, _, rfl, rfl, h0, ?_⟩⟩
      exact hQ _ a b (c + 1) (Int.emod_nonneg _ (by omega)) (Int.emod_lt_of_pos _ h0)
abbrev N_law_cup : List Str := ["_law_script", "_law_at", "_law_cell", "_law_great", "_law_seed"]
theorem sc_law_cup : FnScope N_law_cup ["_law_script", "_law_at"] (defScope (top 35)) := ⟨rfl, rfl, rfl, by decide +kernel, rfl, by decide +kernel, by decide +kernel⟩
theorem c_law_cup (A : At K mg "_law_cup" (top 35)) (B : Blt mg) : Cal P w K mg base 1 "_law_cup" (spFilled K) := by
  refine cal_of A sc_law_cup (fun _ _ _ _ _ _ us hl => match us, hl with | [_, _], _ => rfl) (fun vs H Q E h => ?_) (fun _ cdv A outer s H vs Q E hr h => ?_)
  · obtain ⟨_, _, _, rfl, _⟩ := h; rfl
  · obtain ⟨a, i, ns, rfl, ha, h0, h1, hQ⟩ := h
    refine ⟨_, (pss_cons (ps_set (i := 2) sc_law_cup.nd rfl (Or.inl rfl) (pe_ifExp (pt_cmpR op_lt (pv 1) (pe_callB call_len_seq (by rfl) B.len (by decide +kernel) (pa_cons (pv 0) pa_nil)) (nomark _)) (pe_ix ix_list (pv 0) (pv 1) (fun _ _ => rfl)) (pe_op op_add (pe_op op_mul pe_int (pv 1)) pe_int)))
      (pss_cons (ps_set (i := 3) sc_law_cup.nd rfl (Or.inl rfl) (pe_op op_mod (pe_callTy call_int1 (by rfl) B.int (by decide +kernel) (pa_cons (pe_callB call_abs (by rfl) B.abs (by decide +kernel) (pa_cons (pv 2) pa_nil)) pa_nil)) (pe_op op_powB (pe_op op_powB pe_int pe_int) pe_int)))
      (pss_cons (ps_set (i := 4) sc_law_cup.nd rfl (Or.inl rfl) (pe_op op_mod (pe_callTy call_int1 (by rfl) B.int (by decide +kernel) (pa_cons (pe_op op_add (pe_op op_add (pe_op op_add (pv 3) (pe_op op_mul pe_int (pv 1))) (pe_op op_mul pe_int (pe_callTy call_int1 (by rfl) B.int (by decide +kernel) (pa_cons (pe_cmpR op_lt (pv 2) pe_int (nomark _)) pa_nil)))) pe_int) pa_nil)) (pe_op op_add (pe_op op_powB pe_int pe_int) pe_int)))
      (pss_one (ps_ret (pe_lst (pa_cons (pe_ifExp (pt_cmpR op_gt (pv 3) (pe_op op_powB pe_int pe_int) (nomark _)) (pe_op op_sub (pv 3) (pe_op op_powB pe_int pe_int)) pe_int) (pa_cons (pv 4) (pa_cons pe_int pa_nil))))))))), ?_⟩
    have rest : ∀ cell : Int, True := fun _ => trivial
    refine ⟨_, rfl, _, rfl, a, _, rfl, .inl ha, _, _, rfl, rfl, _, rfl, ?_⟩
    refine ite2 (fun hc => ?_) (fun hc => ?_)
    · obtain ⟨x, hx⟩ := atI_int h0 (of_decide_eq_true hc)
      refine ⟨_, rfl, _, rfl, a, _, _, _, rfl, rfl, ha, hx, ?_⟩
      refine ⟨_, rfl, _, rfl, .inl ⟨_, rfl, _, _, rfl, rfl, ⟨by decide, by decide +kernel⟩, _, _, rfl, rfl, ⟨by decide, by decide +kernel⟩, _, _, rfl, rfl, ?_, ?_⟩⟩
      · show (0 : Int) < (10 ^ 60) ^ 8
        decide
      refine ⟨_, rfl, _, rfl, _, _, rfl, rfl, .inl ⟨by decide, by decide⟩, _, _, rfl, rfl, _, rfl, _, _, rfl, rfl, .inr ⟨_, rfl, _, _, rfl, rfl, .inl ⟨by decide, by decide⟩, _, _, rfl, rfl, _, _, rfl, rfl, .inl ⟨_, rfl, _, _, rfl, rfl, ⟨by decide, by decide +kernel⟩, _, _, rfl, rfl, _, _, rfl, rfl, ?_, ?_⟩⟩⟩
      · show (0 : Int) < 10 ^ 18 + 9
        decide
      refine ⟨_, rfl, _, _, rfl, rfl, ⟨by decide, by decide +kernel⟩, _, _, rfl, rfl, _, rfl, ?_⟩
      refine ite2 (fun _ => ?_) (fun _ => ?_)
      · refine ⟨_, rfl, _, _, rfl, rfl, ⟨by decide, by decide +kernel⟩, _, _, rfl, rfl, _, rfl, (by show 3 ≤ sizeLine; decide), fun q hq => ?_⟩
        exact hQ q _ hq (same_new hq) ⟨_, _, _, upd_same⟩
      · refine ⟨_, rfl, (by show 3 ≤ sizeLine; decide), fun q hq => ?_⟩
        exact hQ q _ hq (same_new hq) ⟨_, _, _, upd_same⟩
    · refine ⟨_, rfl, _, _, rfl, rfl, .inl ⟨by decide, by decide⟩, _, _, rfl, rfl, ?_⟩
      refine ⟨_, rfl, _, rfl, .inl ⟨_, rfl, _, _, rfl, rfl, ⟨by decide, by decide +kernel⟩, _, _, rfl, rfl, ⟨by decide, by decide +kernel⟩, _, _, rfl, rfl, ?_, ?_⟩⟩
      · show (0 : Int) < (10 ^ 60) ^ 8
        decide
      refine ⟨_, rfl, _, rfl, _, _, rfl, rfl, .inl ⟨by decide, by decide⟩, _, _, rfl, rfl, _, rfl, _, _, rfl, rfl, .inr ⟨_, rfl, _, _, rfl, rfl, .inl ⟨by decide, by decide⟩, _, _, rfl, rfl, _, _, rfl, rfl, .inl ⟨_, rfl, _, _, rfl, rfl, ⟨by decide, by decide +kernel⟩, _, _, rfl, rfl, _, _, rfl, rfl, ?_, ?_⟩⟩⟩
      · show (0 : Int) < 10 ^ 18 + 9
        decide
      refine ⟨_, rfl, _, _, rfl, rfl, ⟨by decide, by decide +kernel⟩, _, _, rfl, rfl, _, rfl, ?_⟩
      refine ite2 (fun _ => ?_) (fun _ => ?_)
      · refine ⟨_, rfl, _, _, rfl, rfl, ⟨by decide, by decide +kernel⟩, _, _, rfl, rfl, _, rfl, (by show 3 ≤ sizeLine; decide), fun q hq => ?_⟩
        exact hQ q _ hq (same_new hq) ⟨_, _, _, upd_same⟩
      · refine ⟨_, rfl, (by show 3 ≤ sizeLine; decide), fun q hq => ?_⟩
        exact hQ q _ hq (same_new hq) ⟨_, _, _, upd_same⟩
end
end MN
/-! the draws of the laws k05 .. k09: choices, alphabet, choice, rates -/
namespace MN
open PySem PySem.Spec PyProof.Rows L2
theorem mergeK_nodup {more : List (Key × V)} : ∀ (kvs : List (Key × V)), ((kvs ++ more).map (·.1)).Nodup → mergeK kvs more = kvs ++ more := by
  induction more with
  | nil => intro kvs _; rw [List.append_nil]; rfl
  | cons p more ih =>
    intro kvs hn
    have hnew : p.1 ∉ kvs.map (·.1) := fun hm => by
      rw [List.map_append, List.map_cons] at hn
      exact (List.nodup_append.mp hn).2.2 p.1 hm p.1 List.mem_cons_self rfl
    have hp : putK kvs p.1 p.2 = kvs ++ [(p.1, p.2)] := by
      unfold putK
      rw [if_neg]
      intro q
      obtain ⟨kv, h1, h2⟩ := List.any_eq_true.mp q
      exact hnew (List.mem_map.mpr ⟨kv, h1, of_decide_eq_true h2⟩)
    show mergeK (putK kvs p.1 p.2) more = _
    rw [hp]
    have e : kvs ++ p :: more = (kvs ++ [(p.1, p.2)]) ++ more := by simp
    rw [ih _ (by rw [← e]; exact hn), e]
/-- prices by signs, in the signs' order -/
def dkF (zs : List Str) (g : Str → Int) : List (Key × V) := zs.map fun z => (Sum.inr z, V.int (g z))
theorem dkF_keys (zs : List Str) (g : Str → Int) : (dkF zs g).map (·.1) = zs.map Sum.inr := by
  unfold dkF; rw [List.map_map]; rfl
theorem SgnOk.nodup {zs : List Str} (h : SgnOk zs) : zs.Nodup := h.asc.imp fun {a b} hab e => by rw [e] at hab; exact List.lt_irrefl _ hab
theorem nodup_map {α β : Type} {f : α → β} (hf : ∀ a b, f a = f b → a = b) : ∀ {l : List α}, l.Nodup → (l.map f).Nodup := by
  intro l h
  rw [List.Nodup, List.pairwise_map]
  exact h.imp fun {a b} hab e => hab (hf a b e)
theorem dkF_nodup {zs : List Str} (h : zs.Nodup) (g : Str → Int) : ((dkF zs g).map (·.1)).Nodup := by
  rw [dkF_keys]
  exact nodup_map (fun a b e => Sum.inr.inj e) h
/-- swap prices: pairs of signs, in some order -/
def dtF (ps : List ((Str × Str) × Int)) : List (List Key × V) := ps.map fun x => ([Sum.inr x.1.1, Sum.inr x.1.2], V.int x.2)
theorem dtF_nodup {ps : List ((Str × Str) × Int)} (h : (ps.map Prod.fst).Nodup) : ((dtF ps).map (·.1)).Nodup := by
  unfold dtF
  rw [List.map_map]
  have e : ps.map ((fun x : List Key × V => x.1) ∘ fun x : (Str × Str) × Int => ([Sum.inr x.1.1, Sum.inr x.1.2], V.int x.2)) = (ps.map Prod.fst).map fun q => ([Sum.inr q.1, Sum.inr q.2] : List Key) := by
    rw [List.map_map]; rfl
  rw [e]
  refine nodup_map (fun a b hab => ?_) h
  injection hab with h1 h2
  injection h2 with h2 _
  exact Prod.ext (Sum.inr.inj h1) (Sum.inr.inj h2)
end MN
/-! the draws of the laws k05 .. k09: choices, alphabet, choice -/
namespace MN
open PySem PySem.Spec PyProof.Rows L2
section
variable {P : Program} {w : World} {K : PySem.W.Frag} {mg : Str → Option Value} {base : Heap}
/-! ### _law_choices -/
def spChoices (K : PySem.W.Frag) : Sp := fun vs H Q _ => ∃ p x xs m, vs = [.ref p, x, .int m] ∧ Pot H p ∧ Items K H p x xs ∧ xs.length < 100000 ∧ 0 ≤ m ∧ m < 100000 ∧
  ∀ ys rest q H', (ys ++ rest).Perm xs → (ys.length : Int) = min m xs.length → H q = none → Ex p H H' → H' q = some (.lst ys) → Q (.ref q) H'
abbrev N_law_choices : List Str := ["_law_cup_here", "_law_items", "_law_many", "_law_left", "_law_found", "_law_turn"]
theorem sc_law_choices : FnScope N_law_choices ["_law_cup_here", "_law_items", "_law_many"] (defScope (top 37)) := ⟨rfl, rfl, rfl, by decide +kernel, rfl, by decide +kernel, by decide +kernel⟩
theorem c_law_choices (A : At K mg "_law_choices" (top 37)) (B : Blt mg) (c_law_toss : Cal P w K mg base 1 "_law_toss" spDip) : Cal P w K mg base 2 "_law_choices" (spChoices K) := by
  refine cal_of A sc_law_choices (fun _ _ _ _ _ _ us hl => match us, hl with | [_, _, _], _ => rfl) (fun vs H Q E h => ?_) (fun _ cdv A outer s H vs Q E hr h => ?_)
  · obtain ⟨_, _, _, _, rfl, _⟩ := h; rfl
  · obtain ⟨p, x, xs, m, rfl, hp, hl, hlen, hm0, hm1, hQ⟩ := h
    refine ⟨_, (pss_cons (ps_par (i := 3) (j := 4) (by rfl) sc_law_choices.nd rfl rfl (by decide) rfl rfl (pa_cons (pe_callTy (call_listI rfl) (by rfl) B.list (by decide +kernel) (pa_cons (pv 1) pa_nil)) (pa_cons (pe_lst pa_nil) pa_nil)) (by rfl))
      (pss_cons (ps_for PassesOwn.never rfl (pi_range1 (by rfl) B.range (pa_cons (pe_callB (call_min2 rfl) (by rfl) B.min (by decide +kernel) (pa_cons (pv 2) (pa_cons (pe_callB call_len (by rfl) B.len (by decide +kernel) (pa_cons (pv 1) pa_nil)) pa_nil))) pa_nil)) (pg_name (i := 5) sc_law_choices.nd rfl (Or.inl rfl))
        (pss_one (ps_expr (pe_append K rfl (pv 4) (pe_popAt K rfl (pv 3) (pe_c c_law_toss hr (by decide) (by rfl) (pa_cons (pv 0) (pa_cons (pe_callB call_len_seq (by rfl) B.len (by decide +kernel) (pa_cons (pv 3) pa_nil)) pa_nil))))))))
      (pss_one (ps_ret (pv 4))))), ?_⟩
    have hl' : ItemsL K H x xs := by
      rcases hl with ⟨l, rfl, hne, hl⟩ | ⟨z, rfl, rfl⟩
      · exact .inl ⟨l, rfl, hl⟩
      · refine .inr ⟨z, rfl, ?_, rfl⟩
        rw [signs_len] at hlen
        omega
    refine ⟨_, rfl, x, xs, rfl, hl', fun L hL => ?_⟩
    refine ⟨by decide, fun F hF => ?_⟩
    obtain ⟨a0, b0, c0, hp0⟩ := id hp
    have hLp : L ≠ p := (ne_of_none hp0 hL).symm
    have hFL : F ≠ L := fun z => by rw [z, upd_same] at hF; cases hF
    have hF0 : H F = none := by rw [upd_ne hFL] at hF; exact hF
    have hFp : F ≠ p := (ne_of_none hp0 hF0).symm
    have lenx : LenV K x (upd (upd H L (.lst xs)) F (.lst [])) xs.length := by
      rcases hl with ⟨l, rfl, hne, hl⟩ | ⟨z, rfl, rfl⟩
      · exact .inl ⟨xs, seqL_upd (seqL_upd hl hL) hF, rfl⟩
      · refine ⟨?_, signs_len z⟩
        rw [signs_len] at hlen
        exact Nat.le_trans (Nat.le_of_lt hlen) (by decide)
    refine ⟨_, _, rfl, ?_⟩
    refine ⟨_, rfl, _, rfl, _, xs.length, rfl, lenx, _, _, rfl, _, rfl, ?_, ?_, for_it (walk_range (lo := 0)) (fun i σ H' => Ex p H H' ∧ ∃ made left : List V, (made ++ left).Perm xs ∧ made.length = i ∧ H' F = some (.lst made) ∧ H' L = some (.lst left) ∧ ∃ o, σ = [some (.ref p), some x, some (.int m), some (.ref L), some (.ref F), o]) ?_ (fun _ _ _ _ _ => trivial) (fun i y σ H1 H2 hi e yy => ?_) (fun σ H1 e => ?_)⟩
    · split <;> omega
    · split <;> omega
    · refine ⟨((Ex.refl hp).put hL hLp).put hF0 hFp, [], xs, List.Perm.refl _, rfl, upd_same, by rw [upd_ne hFL.symm, upd_same], _, rfl⟩
    · obtain ⟨rfl, rfl⟩ := yy
      obtain ⟨ex, made, left, hperm, hml, hF1, hL1, o, rfl⟩ := e
      have hil : i < xs.length := by
        have h1 : i < (if (xs.length : Int) < m then (xs.length : Int) else m).toNat := hi
        split at h1 <;> omega
      have hpl := hperm.length_eq
      rw [List.length_append] at hpl
      obtain ⟨a, b, c, hp1⟩ := ex.pot
      refine ⟨_, rfl, .inl ⟨rfl, _, SqL.of hF1⟩, _, rfl, .inl ⟨rfl, _, SqL.of hL1⟩, _, rfl, _, rfl, L, left, rfl, .inl (SqL.of hL1), p, _, a, b, c, rfl, hp1, by omega, by omega, fun r a' b' c' r0 r1 => ?_⟩
      obtain ⟨y, hy, hy2, _⟩ := atI_some (xs := left) r0 r1
      have ex2 : Ex p H (upd _ p (potO a' b' c')) := ex.trans Ex.turn
      refine ⟨L, left, r, r.toNat, y, rfl, rfl, by rw [upd_ne hLp]; exact hL1, by omega, by omega, seqIx r0 r1, hy2, F, made, y, rfl, rfl, ?_, ?_, ?_⟩
      · rw [upd_ne hFL, upd_ne hFp]; exact hF1
      · have : 100000 < sizeLine := by decide
        omega
      · refine ⟨(ex2.put hL hLp).put hF0 hFp, made ++ [y], left.eraseIdx r.toNat, ?_, by rw [List.length_append, List.length_singleton, hml], upd_same, by rw [upd_ne hFL.symm, upd_same], _, rfl⟩
        rw [List.append_assoc]
        exact (List.Perm.append_left made (perm_erase hy2)).trans hperm
    · obtain ⟨ex, made, left, hperm, hml, hF1, hL1, o, rfl⟩ := e
      refine ⟨_, rfl, hQ made left F H1 hperm ?_ hF0 ex hF1⟩
      have hml' : made.length = (if (xs.length : Int) < m then (xs.length : Int) else m).toNat := hml
      split at hml' <;> omega
/-! ### _law_alphabet -/
def spAlpha : Sp := fun vs H Q _ => ∃ p m, vs = [.ref p, .int m] ∧ Pot H p ∧ 0 < m ∧ m < 1000 ∧ ∀ zs q H', SgnOk zs → (zs.length : Int) ≤ m → H q = none → Ex p H H' → H' q = some (.lst (strsV zs)) → Q (.ref q) H'
abbrev N_law_alphabet : List Str := ["_law_cup_here", "_law_most"]
theorem sc_law_alphabet : FnScope N_law_alphabet ["_law_cup_here", "_law_most"] (defScope (top 38)) := ⟨rfl, rfl, rfl, by decide +kernel, rfl, by decide +kernel, by decide +kernel⟩
theorem c_law_alphabet (A : At K mg "_law_alphabet" (top 38)) (B : Blt mg) (c_law_toss : Cal P w K mg base 1 "_law_toss" spDip) (c_law_choices : Cal P w K mg base 2 "_law_choices" (spChoices K)) : Cal P w K mg base 3 "_law_alphabet" spAlpha := by
  refine cal_of A sc_law_alphabet (fun _ _ _ _ _ _ us hl => match us, hl with | [_, _], _ => rfl) (fun vs H Q E h => ?_) (fun _ cdv A outer s H vs Q E hr h => ?_)
  · obtain ⟨_, _, rfl, _⟩ := h; rfl
  · obtain ⟨p, m, rfl, ⟨a, b, c, hp⟩, hm0, hm1, hQ⟩ := h
    refine ⟨_, (pss_one (ps_ret (pe_callB cr_sortedS (by rfl) B.sorted (by decide +kernel) (pa_cons (pe_c c_law_choices hr (by decide) (by rfl) (pa_cons (pv 0) (pa_cons pe_str (pa_cons (pe_op op_add pe_int (pe_c c_law_toss hr (by decide) (by rfl) (pa_cons (pv 0) (pa_cons (pv 1) pa_nil)))) pa_nil)))) pa_nil)))), ?_⟩
    refine ⟨_, rfl, _, rfl, _, rfl, p, m, a, b, c, rfl, hp, by omega, by omega, fun r a' b' c' r0 r1 => ?_⟩
    have ex1 : Ex p H (upd H p (potO a' b' c')) := Ex.turn
    have fr : ∀ q, upd H p (potO a' b' c') q = none → H q = none := fun q hq => ex1.free ⟨a, b, c, hp⟩ hq
    generalize upd H p (potO a' b' c') = H1 at ex1 fr ⊢
    refine ⟨_, _, rfl, rfl, p, _, _, _, rfl, ex1.pot, .inr ⟨_, rfl, rfl⟩, by decide, by omega, by omega, fun ys rest q H2 hperm hyl hq ex2 h2 => ?_⟩
    rw [signsOf_one] at hperm
    obtain ⟨ws, e, hws⟩ := perm_strsP hperm
    have hl5 : ws.length = 5 := hws.length_eq
    obtain ⟨ys', rest', rfl, rfl, rfl⟩ : ∃ ys' rest' : List Str, ws = ys' ++ rest' ∧ ys = strsV ys' ∧ rest = strsV rest' := by
      refine ⟨ws.take ys.length, ws.drop ys.length, (List.take_append_drop _ _).symm, ?_, ?_⟩
      · rw [strsV, List.map_take, ← strsV, ← e]; simp
      · rw [strsV, List.map_drop, ← strsV, ← e]; simp
    have hq0 := fr q hq
    have ylen : (ys'.length : Int) = min (1 + r) 5 := by
      have := hyl
      rw [List.length_map] at this
      rw [this]
      rfl
    refine ⟨q, ys', rfl, SqL.of h2, by omega, fun zs S hzp hzs hS => ?_⟩
    have hne : S ≠ p := by obtain ⟨_, _, _, e⟩ := ex2.pot; exact (ne_of_none e hS).symm
    have ok : SgnOk zs := sgn_drawn (k := ys'.length) hws (by omega) (by rw [List.take_left']; exact hzp; rfl) hzs
    refine hQ zs S _ ok (by rw [hzp.length_eq]; omega) ?_ ((ex1.trans ex2).new hS) upd_same
    exact (ex1.trans ex2).free ⟨a, b, c, hp⟩ hS
/-! ### _law_choice of a list -/
def spPick (K : PySem.W.Frag) : Sp := fun vs H Q _ => ∃ p l xs, vs = [.ref p, .ref l] ∧ Pot H p ∧ l ≠ p ∧ SqL K H l xs ∧ 0 < xs.length ∧ xs.length < 100000 ∧ ∀ v a' b' c', v ∈ xs → Q v (upd H p (potO a' b' c'))
abbrev N_law_choice : List Str := ["_law_cup_here", "_law_items"]
theorem sc_law_choice : FnScope N_law_choice ["_law_cup_here", "_law_items"] (defScope (top 39)) := ⟨rfl, rfl, rfl, by decide +kernel, rfl, by decide +kernel, by decide +kernel⟩
theorem c_law_choice (A : At K mg "_law_choice" (top 39)) (B : Blt mg) (c_law_toss : Cal P w K mg base 1 "_law_toss" spDip) : Cal P w K mg base 2 "_law_choice" (spPick K) := by
  refine cal_of A sc_law_choice (fun _ _ _ _ _ _ us hl => match us, hl with | [_, _], _ => rfl) (fun vs H Q E h => ?_) (fun _ cdv A outer s H vs Q E hr h => ?_)
  · obtain ⟨_, _, _, rfl, _⟩ := h; rfl
  · obtain ⟨p, l, xs, rfl, ⟨a, b, c, hp⟩, hne, hl, h0, h1, hQ⟩ := h
    refine ⟨_, (pss_one (ps_ret (pe_ix ix_list (pv 1) (pe_c c_law_toss hr (by decide) (by rfl) (pa_cons (pv 0) (pa_cons (pe_callB call_len_seq (by rfl) B.len (by decide +kernel) (pa_cons (pv 1) pa_nil)) pa_nil))) (fun _ _ => rfl)))), ?_⟩
    refine ⟨_, rfl, _, rfl, _, rfl, l, xs, rfl, .inl hl, p, _, a, b, c, rfl, hp, by omega, by omega, fun r a' b' c' r0 r1 => ?_⟩
    obtain ⟨v, hv, _, hat⟩ := atI_some (xs := xs) r0 r1
    exact ⟨l, xs, r, v, rfl, rfl, (Ex.turn (H := H) (p := p)).seqL hl hne, hat, hQ v a' b' c' hv⟩
end
end MN
/-! prices: what they hold; is_pair, are_prices -/
namespace MN
open PySem PySem.Spec PyProof.Rows L2
/-- good prices: put and out by signs, swaps by pairs -/
structure PrN (zs zs2 : List Str) (g o : Str → Int) (ps : List ((Str × Str) × Int)) : Prop where
  sg : ∀ z ∈ zs, ∃ c ∈ ("abcde" : Str).cps.toList, z = ⟨#[c]⟩
  nd : zs.Nodup
  pos : 0 < zs.length
  le : zs.length ≤ 5
  pm : zs2.Perm zs
  pg : ∀ z ∈ zs, 1 ≤ g z ∧ g z ≤ 9
  po : ∀ z ∈ zs, 1 ≤ o z ∧ o z ≤ 9
  sn : (ps.map Prod.fst).Nodup
  sp : ∀ x ∈ ps, x.1.1 ∈ zs ∧ x.1.2 ∈ zs ∧ x.1.1 ≠ x.1.2 ∧ 1 ≤ x.2 ∧ x.2 ≤ 18
  sl : ps.length ≤ 100
theorem isSign_one {z : Str} (h : ∃ c ∈ ("abcde" : Str).cps.toList, z = ⟨#[c]⟩) : isSign (.str z) = true := by
  obtain ⟨c, hc, rfl⟩ := h
  simp only [isSign, isWordS, Bool.and_eq_true, decide_eq_true_eq]
  refine ⟨rfl, ?_⟩
  simp only [List.all_cons, List.all_nil, Bool.and_true, sgn, decide_eq_true_eq]
  exact hc
theorem len_one {z : Str} (h : ∃ c ∈ ("abcde" : Str).cps.toList, z = ⟨#[c]⟩) : z.length = 1 := by
  obtain ⟨c, hc, rfl⟩ := h
  rfl
theorem valV_of {α : Type} [DecidableEq α] {kvs : List (α × V)} (nd : (kvs.map (·.1)).Nodup) {k : α} {v : V} (h : (k, v) ∈ kvs) : valV kvs k = some v := by
  induction kvs with
  | nil => cases h
  | cons a kvs ih =>
    rw [List.map_cons, List.nodup_cons] at nd
    unfold valV
    by_cases e : a.1 = k
    · rcases List.mem_cons.mp h with q | q
      · rw [← q]; simp
      · exact absurd (List.mem_map.mpr ⟨_, q, rfl⟩) (by rw [← e]; exact nd.1)
    · rcases List.mem_cons.mp h with q | q
      · rw [← q] at e; exact absurd rfl e
      · have := ih nd.2 q
        unfold valV at this
        simpa [List.find?_cons, e] using this
theorem valV_no {α : Type} [DecidableEq α] {kvs : List (α × V)} {k : α} (h : k ∉ kvs.map (·.1)) : valV kvs k = none := by
  unfold valV
  rw [Option.map_eq_none_iff, List.find?_eq_none]
  intro x hx q
  exact h (List.mem_map.mpr ⟨x, hx, by simpa using q⟩)
theorem dkF_val {zs : List Str} (nd : zs.Nodup) (g : Str → Int) {z : Str} (h : z ∈ zs) : valV (dkF zs g) (.inr z) = some (.int (g z)) :=
  valV_of (dkF_nodup nd g) (List.mem_map.mpr ⟨z, h, rfl⟩)
theorem dtF_val {ps : List ((Str × Str) × Int)} (nd : (ps.map Prod.fst).Nodup) {x y : Str} {p : Int} (h : ((x, y), p) ∈ ps) : valV (dtF ps) [.inr x, .inr y] = some (.int p) :=
  valV_of (dtF_nodup nd) (List.mem_map.mpr ⟨_, h, rfl⟩)
theorem dtF_no {ps : List ((Str × Str) × Int)} {x y : Str} (h : (x, y) ∉ ps.map Prod.fst) : valV (dtF ps) [.inr x, .inr y] = none := by
  refine valV_no fun q => h ?_
  unfold dtF at q
  rw [List.map_map] at q
  obtain ⟨a, ha, e⟩ := List.mem_map.mp q
  have e' : ([Sum.inr a.1.1, Sum.inr a.1.2] : List Key) = [.inr x, .inr y] := e
  injection e' with e1 e2
  injection e2 with e2 _
  exact List.mem_map.mpr ⟨a, ha, Prod.ext (Sum.inr.inj e1) (Sum.inr.inj e2)⟩
section
variable {P : Program} {w : World} {K : PySem.W.Frag} {mg : Str → Option Value} {base : Heap}
/-! ### is_pair -/
def spIsPair (K : PySem.W.Frag) : Sp := fun vs H Q _ => ∃ t d x y kvs, vs = [.ref t, .ref d] ∧ SqT K H t [.str x, .str y] ∧ H d = some (.dK kvs) ∧ isSign (.str x) = true ∧ isSign (.str y) = true ∧ (∃ v, valV kvs (.inr x) = some v) ∧ (∃ v, valV kvs (.inr y) = some v) ∧ x ≠ y ∧ ∀ H', Same H H' → Q (.bl true) H'
abbrev N_is_pair : List Str := ["value", "signs", "sign"]
theorem sc_is_pair : FnScope N_is_pair ["value", "signs"] (defScope (top 19)) := ⟨rfl, rfl, rfl, by decide +kernel, rfl, by decide +kernel, by decide +kernel⟩
theorem c_is_pair (A : At K mg "is_pair" (top 19)) (B : Blt mg) (c_is_sign : Cal P w K mg base 1 "is_sign" (spIsSign K)) : Cal P w K mg base 2 "is_pair" (spIsPair K) := by
  refine cal_of A sc_is_pair (fun _ _ _ _ _ _ us hl => match us, hl with | [_, _], _ => rfl) (fun vs H Q E h => ?_) (fun f cdv A outer s H vs Q E hr h => ?_)
  · obtain ⟨_, _, _, _, _, rfl, _⟩ := h; rfl
  · obtain ⟨t, d, x, y, kvs, rfl, ht, hd, sx, sy, ⟨v1, g1⟩, ⟨v2, g2⟩, ne, hQ⟩ := h
    refine ⟨_, (pss_cons (ps_if (PW.pt (pw_or (pt_not (pt_val (pe_callB call_isS (by rfl) B.isinstance (by decide +kernel) (pa_cons (pv 0) (pa_cons (pe_bltn (v := .ty "tuple") (by rfl) B.tuple (by decide +kernel) rfl) pa_nil))))) (pw_or (pt_cmpR op_ne (pe_callB call_len_seq (by rfl) B.len (by decide +kernel) (pa_cons (pv 0) pa_nil)) pe_int (nomark _)) (pw_or1 (pt_not (pt_val (pe_callB (cr_all rfl) (by rfl) B.all (by decide +kernel) (pa_cons (pe_lc (own := [("sign", 2)]) (g := gName 2) (tt := tYes) (by rfl) sc_is_pair.nd (pi_tup (pv 0)) (blkOk_by (own := [("sign", 2)]) (N := N_is_pair) (sc := defScope (top 19)) (by decide +kernel)) (fun _ _ _ _ _ => (pg_name (i := 2) sc_is_pair.nd rfl (Or.inl rfl))) (fun _ _ _ _ _ => pts_nil) (fun _ _ _ _ _ => (pe_c c_is_sign hr (by decide) (by rfl) (pa_cons (pv 2) pa_nil)))) pa_nil))))))))
      (pss_one (ps_ret pe_bl))
      pss_nil)
      (pss_one (ps_ret (pe_and (pe_cmp (pc_din (hu_of hr) (pe_ix ix_tup (pv 0) pe_int (fun _ _ => rfl)) (pv 1)) rfl) (pe_and (pe_cmp (pc_din (hu_of hr) (pe_ix ix_tup (pv 0) pe_int (fun _ _ => rfl)) (pv 1)) rfl) (pe_one (pe_cmpR op_ne (pe_ix ix_tup (pv 0) pe_int (fun _ _ => rfl)) (pe_ix ix_tup (pv 0) pe_int (fun _ _ => rfl)) (nomark _)))))))), ?_⟩
    refine ⟨_, rfl, .ref t, "tuple", true, rfl, .ty (tyT ht) (by decide +kernel), _, rfl, iteF ?_⟩
    refine ⟨_, rfl, t, _, rfl, .inr ht, rfl, _, rfl, iteF ?_⟩
    refine ⟨_, rfl, t, rfl, ⟨_, ht⟩, fun D hD => ?_⟩
    refine lc_tplE ht hD (show 2 ≤ 1000000 by decide) (fun _ => true) (fun x => .bl true) (fun x _ => rfl) (fun x _ H2 e2 Q q => q _ (Same.refl _)) (fun v hv _ H2 e2 Q q => ?_) (fun H2 e2 h2 => ?_)
    · have hv' : v = .str x ∨ v = .str y := by simpa using hv
      rcases hv' with rfl | rfl
      · refine ⟨_, rfl, _, rfl, .str (by rw [(show x.length = 1 by simp [isSign] at sx; exact sx.1)]; decide), ?_⟩
        rw [sx]; exact q _ (Same.refl _)
      · refine ⟨_, rfl, _, rfl, .str (by rw [(show y.length = 1 by simp [isSign] at sy; exact sy.1)]; decide), ?_⟩
        rw [sy]; exact q _ (Same.refl _)
    refine ⟨D, [true, true], rfl, .inl (.inl h2), _, rfl, iteF ?_⟩
    have ht2 := Same.seqT e2 ht
    have hd2 := e2 _ _ hd
    refine ⟨_, rfl, t, _, _, _, rfl, rfl, ht2, rfl, _, rfl, d, some v1, rfl, .inl ⟨kvs, .inr x, .inl hd2, rfl, g1.symm⟩, _, rfl, iteT ?_⟩
    refine ⟨_, rfl, t, _, _, _, rfl, rfl, ht2, rfl, _, rfl, d, some v2, rfl, .inl ⟨kvs, .inr y, .inl hd2, rfl, g2.symm⟩, _, rfl, iteT ?_⟩
    refine ⟨_, rfl, t, _, _, _, rfl, rfl, ht2, rfl, _, rfl, t, _, _, _, rfl, rfl, ht2, rfl, rfl, ?_⟩
    have e : (!decide (V.str x = V.str y)) = true := by simp [ne]
    rw [e]
    exact hQ _ e2
/-! ### are_prices -/
def spAreP : Sp := fun vs H Q _ => ∃ a b c zs zs2 g o ps, vs = [.ref a, .ref b, .ref c] ∧ H a = some (.dK (dkF zs g)) ∧ H b = some (.dK (dkF zs2 o)) ∧ H c = some (.dT (dtF ps)) ∧ a ≠ b ∧ PrN zs zs2 g o ps ∧ ∀ H', Same H H' → Q (.bl true) H'
abbrev N_are_prices : List Str := ["put", "out", "swap", "table", "sign", "price", "pair"]
theorem sc_are_prices : FnScope N_are_prices ["put", "out", "swap"] (defScope (top 20)) := ⟨rfl, rfl, rfl, by decide +kernel, rfl, by decide +kernel, by decide +kernel⟩
theorem c_are_prices (A : At K mg "are_prices" (top 20)) (B : Blt mg) (G1 : GlC mg "MAX_PRICE" (.int 9)) (G2 : GlC mg "MAX_SWAP" (.int 18)) (c_is_sign : Cal P w K mg base 1 "is_sign" (spIsSign K)) (c_is_price : Cal P w K mg base 2 "is_price" (spIsPrice K)) (c_is_pair : Cal P w K mg base 2 "is_pair" (spIsPair K)) : Cal P w K mg base 3 "are_prices" spAreP := by
  refine cal_of A sc_are_prices (fun _ _ _ _ _ _ us hl => match us, hl with | [_, _, _], _ => rfl) (fun vs H Q E h => ?_) (fun f cdv A outer s H vs Q E hr h => ?_)
  · obtain ⟨_, _, _, _, _, _, _, _, rfl, _⟩ := h; rfl
  · obtain ⟨a, b, c, zs, zs2, g, o, ps, rfl, ha, hb, hc, nab, N, hQ⟩ := h
    refine ⟨_, (pss_cons (ps_if (PW.pt (pw_or (pt_not (pt_val (pe_callB (cr_all rfl) (by rfl) B.all (by decide +kernel) (pa_cons (pe_lc (own := [("table", 3)]) (g := gName 3) (tt := tYes) (by rfl) sc_are_prices.nd (pi_tup (pe_tup (pa_cons (pv 0) (pa_cons (pv 1) (pa_cons (pv 2) pa_nil))))) (blkOk_by (own := [("table", 3)]) (N := N_are_prices) (sc := defScope (top 20)) (by decide +kernel)) (fun _ _ _ _ _ => (pg_name (i := 3) sc_are_prices.nd rfl (Or.inl rfl))) (fun _ _ _ _ _ => pts_nil) (fun _ _ _ _ _ => (pe_callB (isSK (K := K) rfl) (by rfl) B.isinstance (by decide +kernel) (pa_cons (pv 3) (pa_cons (pe_bltn (v := .ty "dict") (by rfl) B.dict (by decide +kernel) rfl) pa_nil))))) pa_nil)))) (pw_or1 (pt_cmpR op_eq (pe_callB call_lenD (by rfl) B.len (by decide +kernel) (pa_cons (pv 0) pa_nil)) pe_int (nomark _)))))
      (pss_one (ps_ret pe_bl))
      pss_nil)
      (pss_cons (ps_if (PW.pt (pw_or (pt_not (pt_val (pe_callB (cr_all rfl) (by rfl) B.all (by decide +kernel) (pa_cons (pe_lock (pe_lc (own := [("sign", 4)]) (g := gName 4) (tt := tYes) (by rfl) sc_are_prices.nd (pi_keys (pv 0)) (blkOk_by (own := [("sign", 4)]) (N := N_are_prices) (sc := defScope (top 20)) (by decide +kernel)) (fun _ _ _ _ _ => (pg_name (i := 4) sc_are_prices.nd rfl (Or.inl rfl))) (fun _ _ _ _ _ => pts_nil) (fun _ _ _ _ _ => (pe_c c_is_sign hr (by decide) (by rfl) (pa_cons (pv 4) pa_nil))))) pa_nil)))) (pw_or (pt_cmpR op_ne (pe_callB call_lenD (by rfl) B.len (by decide +kernel) (pa_cons (pv 0) pa_nil)) (pe_callB call_lenD (by rfl) B.len (by decide +kernel) (pa_cons (pv 1) pa_nil)) (nomark _)) (pw_or1 (pt_not (pt_val (pe_callB (cr_all rfl) (by rfl) B.all (by decide +kernel) (pa_cons (pe_lock (pe_lc (own := [("sign", 4)]) (g := gName 4) (tt := tYes) (by rfl) sc_are_prices.nd (pi_keys (pv 0)) (blkOk_by (own := [("sign", 4)]) (N := N_are_prices) (sc := defScope (top 20)) (by decide +kernel)) (fun _ _ _ _ _ => (pg_name (i := 4) sc_are_prices.nd rfl (Or.inl rfl))) (fun _ _ _ _ _ => pts_nil) (fun _ _ _ _ _ => (pe_cmp (pc_din (hu_of hr) (pv 4) (pv 1)))))) pa_nil))))))))
        (pss_one (ps_ret pe_bl))
        pss_nil)
      (pss_cons (ps_if (pt_not (pt_val (pe_callB (cr_all rfl) (by rfl) B.all (by decide +kernel) (pa_cons (pe_lc (own := [("price", 5)]) (g := gName 5) (tt := tYes) (by rfl) sc_are_prices.nd (pi_list (pe_op op_cat (pe_listVals rfl (pv 0) (by rfl) B.list) (pe_listVals rfl (pv 1) (by rfl) B.list))) (blkOk_by (own := [("price", 5)]) (N := N_are_prices) (sc := defScope (top 20)) (by decide +kernel)) (fun _ _ _ _ _ => (pg_name (i := 5) sc_are_prices.nd rfl (Or.inl rfl))) (fun _ _ _ _ _ => pts_nil) (fun _ _ _ _ _ => (pe_c c_is_price hr (by decide) (by rfl) (pa_cons (pv 5) (pa_cons (pe_gl (by rfl) G1) pa_nil))))) pa_nil))))
        (pss_one (ps_ret pe_bl))
        pss_nil)
      (pss_one (ps_ret (pe_callB (cr_all rfl) (by rfl) B.all (by decide +kernel) (pa_cons (pe_lock (pe_lc (own := [("pair", 6), ("price", 5)]) (tt := tYes) (by rfl) sc_are_prices.nd (pi_itemsT (pv 2)) (blkOk_by (own := [("pair", 6), ("price", 5)]) (N := N_are_prices) (sc := defScope (top 20)) (by decide +kernel)) (fun _ _ _ _ _ => (pg_tupK (K := K) (n := 2) rfl rfl (pgs_cons (pg_name (i := 6) sc_are_prices.nd rfl (Or.inl rfl)) (pgs_cons (pg_name (i := 5) sc_are_prices.nd rfl (Or.inl rfl)) pgs_nil)))) (fun _ _ _ _ _ => pts_nil) (fun _ _ _ _ _ => pe_and (pe_c c_is_pair hr (by decide) (by rfl) (pa_cons (pv 6) (pa_cons (pv 0) pa_nil))) (pe_one (pe_c c_is_price hr (by decide) (by rfl) (pa_cons (pv 5) (pa_cons (pe_gl (by rfl) G2) pa_nil))))))) pa_nil))))))), ?_⟩
    have lz : (dkF zs g).length = zs.length := by simp [dkF]
    have lz2 : (dkF zs2 o).length = zs.length := by simp [dkF, N.pm.length_eq]
    -- all are dicts
    refine ⟨_, rfl, _, rfl, _, rfl, (show 3 ≤ sizeLine by decide), fun p hp => ⟨p, rfl, ⟨_, .inl (.inl upd_same)⟩, fun D hD => ?_⟩⟩
    have e1 : Same H (upd H p (.tup [.ref a, .ref b, .ref c])) := same_new hp
    refine lc_tplE (.inl (.inl upd_same)) hD (show 3 ≤ 1000000 by decide) (fun _ => true) (fun x => .bl true) (fun x _ => rfl) (fun x _ H2 e2 Q q => q _ (Same.refl _)) (fun x hx _ H2 e2 Q q => ?_) (fun H2 e2 h2 => ?_)
    · refine ⟨_, rfl, x, "dict", true, rfl, ?_, q _ (Same.refl _)⟩
      have ea := e2 _ _ (e1 _ _ ha)
      have eb := e2 _ _ (e1 _ _ hb)
      have ec := e2 _ _ (e1 _ _ hc)
      have hx' : x = .ref a ∨ x = .ref b ∨ x = .ref c := by simpa using hx
      rcases hx' with rfl | rfl | rfl
      · exact .ty (.base (.dK ea)) (by decide +kernel)
      · exact .ty (.base (.dK eb)) (by decide +kernel)
      · exact .ty (.base (.dT ec)) (by decide +kernel)
    refine ⟨D, [true, true, true], rfl, .inl (.inl h2), _, rfl, iteF ?_⟩
    have e2 := e1.trans e2
    refine ⟨_, rfl, a, _, rfl, e2 _ _ ha, rfl, _, rfl, ?_⟩
    rw [show decide (V.int ((dkF zs g).length : Nat) = V.int 0) = false from decide_eq_false fun z => by have := N.pos; injection z with z; omega]
    refine iteF ?_
    have ks : ∀ x ∈ (dkF zs g).map (fun kv => kV kv.1), ∃ z ∈ zs, x = .str z := fun x hx => by
      unfold dkF at hx
      rw [List.map_map] at hx
      obtain ⟨z, hz, rfl⟩ := List.mem_map.mp hx
      exact ⟨z, hz, rfl⟩
    have kl : (dkF zs g).length ≤ 1000000 := by have := N.le; omega
    have bs : ((((dkF zs g).map fun kv => kV kv.1).filter fun _ => true).map fun _ => V.bl true) = (List.replicate zs.length true).map V.bl := by
      unfold dkF
      rw [filter_all, List.map_map, List.map_map, List.map_replicate]
      exact List.map_const' ..
    have ball : ∀ n, (List.replicate n true).all id = true := fun n => by simp
    -- all keys are signs
    refine ⟨a, _, e2 _ _ ha, trivial, fun od => ⟨_, rfl, a, od, rfl, .inl ⟨_, upd_same, fun D2 hD2 => ?_⟩⟩⟩
    refine lc_keysL (e2 _ _ ha) hD2 kl (fun _ => true) (fun x => .bl true) (fun x _ => rfl) (fun x _ H3 _ _ Q q => q) (fun x hx _ H3 f3 _ Q q => ?_) (fun H3 f3 e3 h3 => ⟨f3, ?_⟩)
    · obtain ⟨z, hz, rfl⟩ := ks x hx
      refine ⟨_, rfl, _, rfl, .str (by rw [len_one (N.sg z hz)]; decide), ?_⟩
      rw [isSign_one (N.sg z hz)]
      exact q
    generalize upd H3 a (.dK (dkF zs g)) = H3' at *
    rw [bs] at h3
    refine ⟨D2, _, rfl, .inl (.inl h3), _, rfl, ?_⟩
    rw [ball]
    refine iteF ?_
    have e3 := e2.trans e3
    refine ⟨_, rfl, a, _, rfl, e3 _ _ ha, _, rfl, b, _, rfl, e3 _ _ hb, rfl, _, rfl, ?_⟩
    rw [lz, lz2, show (!decide (V.int (zs.length : Nat) = V.int (zs.length : Nat))) = false by simp]
    refine iteF ?_
    -- all keys in out
    refine ⟨a, _, e3 _ _ ha, trivial, fun od => ⟨_, rfl, a, od, rfl, .inl ⟨_, upd_same, fun D3 hD3 => ?_⟩⟩⟩
    refine lc_keysL (e3 _ _ ha) hD3 kl (fun _ => true) (fun x => .bl true) (fun x _ => rfl) (fun x _ H3 _ _ Q q => q) (fun x hx _ H3 f3 k3 Q q => ?_) (fun H4 f4 e4 h4 => ⟨f4, ?_⟩)
    · obtain ⟨z, hz, rfl⟩ := ks x hx
      refine ⟨_, rfl, _, rfl, b, some (.int (o z)), rfl, .inl ⟨_, .inr z, .inl (k3 b _ nab.symm (e3 _ _ hb)), rfl, ?_⟩, q⟩
      exact (dkF_val (N.pm.nodup_iff.mpr N.nd) o (N.pm.mem_iff.mpr hz)).symm
    generalize upd H4 a (.dK (dkF zs g)) = H4' at *
    rw [bs] at h4
    refine ⟨D3, _, rfl, .inl (.inl h4), _, rfl, ?_⟩
    rw [ball]
    refine iteF ?_
    have e4 := e3.trans e4
    -- prices
    refine ⟨_, rfl, a, _, rfl, e4 _ _ ha, fun p1 hp1 => ?_⟩
    have e5 := e4.trans (same_new (o := .lst ((dkF zs g).map (·.2))) hp1)
    refine ⟨_, rfl, b, _, rfl, e5 _ _ hb, fun p2 hp2 => ⟨p1, p2, (dkF zs g).map (·.2), (dkF zs2 o).map (·.2), rfl, rfl, ?_, upd_same, ?_, fun p3 hp3 => ?_⟩⟩
    · rw [upd_ne (ne_of_none upd_same hp2), upd_same]
    · have := N.le
      have : 1000 ≤ sizeLine := by decide
      simp only [List.length_map, lz, lz2]
      omega
    have e6 := e5.trans (same_new (o := .lst ((dkF zs2 o).map (·.2))) hp2)
    have e7 := e6.trans (same_new (o := .lst ((dkF zs g).map (·.2) ++ (dkF zs2 o).map (·.2))) hp3)
    refine ⟨p3, rfl, ⟨_, .inl (.inl upd_same)⟩, fun D4 hD4 => ?_⟩
    refine lc_lstE (.inl (.inl upd_same)) hD4 (by have := N.le; simp only [List.length_append, List.length_map, lz, lz2]; omega) (fun _ => true) (fun x => .bl true) (fun x _ => rfl) (fun x _ H2 e2 Q q => q _ (Same.refl _)) (fun x hx _ H2 e2 Q q => ?_) (fun H8 e8 h8 => ?_)
    · have hx' : ∃ n, x = .int n ∧ 1 ≤ n ∧ n ≤ 9 := by
        rcases List.mem_append.mp hx with hx | hx
        · unfold dkF at hx
          rw [List.map_map] at hx
          obtain ⟨z, hz, rfl⟩ := List.mem_map.mp hx
          exact ⟨_, rfl, N.pg z hz⟩
        · unfold dkF at hx
          rw [List.map_map] at hx
          obtain ⟨z, hz, rfl⟩ := List.mem_map.mp hx
          exact ⟨_, rfl, N.po z (N.pm.mem_iff.mp hz)⟩
      obtain ⟨n, rfl, n1, n2⟩ := hx'
      refine ⟨_, rfl, .int n, 9, rfl, .inl ⟨n, rfl, ?_⟩⟩
      rw [isInt_of (by omega) (by omega), decide_eq_true n1, decide_eq_true n2]
      exact q _ (Same.refl _)
    have b8 : (((((dkF zs g).map (·.2) ++ (dkF zs2 o).map (·.2)).filter fun _ => true).map fun _ => V.bl true)) = (List.replicate (zs.length + zs.length) true).map V.bl := by
      rw [filter_all]
      simp only [List.map_const', List.length_append, List.length_map, lz, lz2, List.map_replicate]
    rw [b8] at h8
    refine ⟨D4, _, rfl, .inl (.inl h8), _, rfl, ?_⟩
    rw [ball]
    refine iteF ?_
    have e8 := e7.trans e8
    -- swaps
    refine ⟨c, _, e8 _ _ hc, trivial, fun od => ⟨_, rfl, c, od, _, rfl, upd_same, fun D5 hD5 => ?_⟩⟩
    have nDc : D5 ≠ c := fun z => by rw [z, upd_same] at hD5; cases hD5
    have hD5' : H8 D5 = none := by rw [upd_ne nDc] at hD5; exact hD5
    have nca : c ≠ a := fun z => by rw [z, ha] at hc; cases hc
    refine lc_it walk_itemsT (fun i H' => Same H8 (upd H' c (.dT (dtF ps))) ∧ H' c = some (.frz od (.dT (dtF ps))) ∧ H' D5 = some (.lst ((List.replicate i true).map V.bl))) ⟨?_, by rw [upd_ne nDc.symm, upd_same], upd_same⟩ (fun i H' _ e => e.2.1) (fun i x H1 H2 hi e y => ?_) (fun H9 e => ?_)
    · exact (same_lock (e8 _ _ hc) hD5).1
    · obtain ⟨e9, f9, h9⟩ := e
      obtain ⟨T, k, v, q, hkv, rfl, hT, hq, rfl⟩ := y
      have nT : T ≠ c := fun z => by rw [z, f9] at hT; cases hT
      have nTD : T ≠ D5 := fun z => by rw [z, h9] at hT; cases hT
      unfold dtF at hkv
      rw [List.getElem?_map] at hkv
      obtain ⟨⟨⟨z1, z2⟩, n⟩, hx, ekv⟩ := Option.map_eq_some_iff.mp hkv
      cases ekv
      obtain ⟨i1, i2, ne, n1, n2⟩ := N.sp _ (List.mem_of_getElem? hx)
      refine ⟨T, [.ref q, .int n], rfl, .inl (.inl upd_same), rfl, _, _, rfl, _, _, rfl, rfl, rfl, yes_q (iteT ?_)⟩
      have hq2 : upd H1 T (.tup [.ref q, .int n]) q = some (.tup [.str z1, .str z2]) := by rw [upd_ne (ne_of_none hq hT)]; exact hq
      have ha2 : upd H1 T (.tup [.ref q, .int n]) a = some (.dK (dkF zs g)) := by
        have z := e9 _ _ (e8 _ _ ha)
        rw [upd_ne nca.symm] at z
        rw [upd_ne (ne_of_none z hT)]
        exact z
      refine ⟨_, rfl, _, rfl, q, a, z1, z2, _, rfl, .inl (.inl hq2), ha2, isSign_one (N.sg _ i1), isSign_one (N.sg _ i2), ⟨_, dkF_val N.nd g i1⟩, ⟨_, dkF_val N.nd g i2⟩, ne, fun H3 e3 => ⟨_, rfl, iteT ?_⟩⟩
      refine ⟨_, rfl, .int n, 18, rfl, .inl ⟨n, rfl, ?_⟩⟩
      rw [isInt_of (by omega) (by omega), decide_eq_true n1, decide_eq_true n2]
      have D3 : H3 D5 = some (.lst ((List.replicate i true).map V.bl)) := e3 _ _ (by rw [upd_ne nTD.symm]; exact h9)
      refine ⟨_, D3, ?_, ?_, ?_, ?_⟩
      · have : 1000 ≤ sizeLine := by decide
        have := N.sl
        have hi' : i < (dtF ps).length := hi
        simp [dtF] at hi' ⊢
        omega
      · intro y u hu
        have hu2 := e9 _ _ hu
        by_cases yc : y = c
        · subst yc; rw [upd_same] at hu2 ⊢; exact hu2
        · rw [upd_ne yc] at hu2 ⊢
          have yD : y ≠ D5 := fun z => by rw [z, hD5'] at hu; cases hu
          rw [upd_ne yD]
          exact e3 _ _ (by rw [upd_ne (ne_of_none hu2 hT)]; exact hu2)
      · rw [upd_ne nDc.symm]
        exact e3 _ _ (by rw [upd_ne nT.symm]; exact f9)
      · rw [upd_same, List.replicate_succ', List.map_append]
        rfl
    · obtain ⟨e9, f9, h9⟩ := e
      refine ⟨f9, D5, _, rfl, .inl (.inl (show upd H9 c (.dT (dtF ps)) D5 = some (.lst ((List.replicate (dtF ps).length true).map V.bl)) by rw [upd_ne nDc]; exact h9)), ?_⟩
      rw [ball]
      exact hQ _ (e8.trans e9)
end
end MN
/-! dict comprehensions over signs and pairs; Prices.__init__ -/
namespace MN
open PySem PySem.Spec PyProof.Rows L2
theorem putK_fresh {α : Type} [DecidableEq α] {kvs : List (α × V)} {k : α} {v : V} (h : k ∉ kvs.map (·.1)) : putK kvs k v = kvs ++ [(k, v)] := by
  unfold putK
  rw [if_neg]
  intro q
  obtain ⟨kv, h1, h2⟩ := List.any_eq_true.mp q
  exact h (List.mem_map.mpr ⟨kv, h1, of_decide_eq_true h2⟩)
theorem take_nodup {α : Type} {l : List α} (nd : l.Nodup) {i : Nat} {a : α} (h : l[i]? = some a) : a ∉ l.take i := fun q => by
  obtain ⟨j, hj⟩ := List.mem_iff_getElem?.mp q
  rw [List.getElem?_take] at hj
  split at hj
  · rename_i hji
    have h1 := (List.getElem?_eq_some_iff.mp hj)
    have h2 := (List.getElem?_eq_some_iff.mp h)
    have := (List.getElem_inj (h₀ := h1.1) (h₁ := h2.1) nd).mp (h1.2.trans h2.2.symm)
    omega
  · cases hj
theorem dkF_put {zs : List Str} (g : Str → Int) (nd : zs.Nodup) {i : Nat} {z : Str} (h : zs[i]? = some z) : putK (dkF (zs.take i) g) (.inr z) (.int (g z)) = dkF (zs.take (i + 1)) g := by
  rw [putK_fresh]
  · rw [List.take_add_one, h]
    simp [dkF]
  · rw [dkF_keys]
    intro q
    obtain ⟨y, hy, e⟩ := List.mem_map.mp q
    cases e
    exact take_nodup nd h hy
theorem dtF_put {ps : List ((Str × Str) × Int)} (nd : (ps.map Prod.fst).Nodup) {i : Nat} {x y : Str} {n : Int} (h : ps[i]? = some ((x, y), n)) : putK (dtF (ps.take i)) [.inr x, .inr y] (.int n) = dtF (ps.take (i + 1)) := by
  rw [putK_fresh]
  · rw [List.take_add_one, h]
    simp [dtF]
  · intro q
    unfold dtF at q
    rw [List.map_map] at q
    obtain ⟨a, ha, e⟩ := List.mem_map.mp q
    have e' : ([Sum.inr a.1.1, Sum.inr a.1.2] : List Key) = [.inr x, .inr y] := e
    injection e' with e1 e2
    injection e2 with e2 _
    have ea : a.1 = (x, y) := Prod.ext (Sum.inr.inj e1) (Sum.inr.inj e2)
    have hi : (ps.map Prod.fst)[i]? = some (x, y) := by rw [List.getElem?_map, h]; rfl
    refine take_nodup nd hi ?_
    rw [← ea, ← List.map_take]
    exact List.mem_map.mpr ⟨a, ha, rfl⟩
theorem perm_map_ex {α β : Type} {f : α → β} : ∀ {l : List β} {F : List α}, l.Perm (F.map f) → ∃ F' : List α, F'.Perm F ∧ l = F'.map f
  | [], F, h => by
    have := h.length_eq
    cases F with
    | nil => exact ⟨[], .refl _, rfl⟩
    | cons => simp at this
  | a :: l, F, h => by
    obtain ⟨x, hx, rfl⟩ := List.mem_map.mp (h.mem_iff.mp List.mem_cons_self)
    obtain ⟨s, t, rfl⟩ := List.append_of_mem hx
    have p : (s ++ x :: t).Perm (x :: (s ++ t)) := List.perm_middle
    have h2 := h.trans (p.map f)
    rw [List.map_cons] at h2
    obtain ⟨F', q, e⟩ := perm_map_ex (h2.cons_inv)
    exact ⟨x :: F', (q.cons x).trans p.symm, by rw [e]; rfl⟩
section
variable {K : PySem.W.Frag} {a D : Addr} {H1 : Hp} {σ : L2.St} {vs : List Nat} {tk tv : TE} {j : Nat} {Qd : Hp → Prop}
def DcGoal (o0 : HO) (J : It) (g : TG) (tt : TT) (tk tv : TE) (vs : List Nat) (σ : L2.St) (H1 : Hp) (D : Addr) (Qd : Hp → Prop) : Prop := ∃ W : Nat → Nat → Hp → Prop, (∃ m, W 0 m (upd H1 D o0)) ∧ ∀ i m H, W i m H →
  (J.stop i H ∧ Qd H) ∨ (J.go i H ∧ ∃ Nx : Hp → Prop, (∀ H', Nx H' → ∃ m', m' < m ∧ W (i + 1) m' H') ∧ ∀ x H', J.yld i H x H' → g x (wipe σ vs) H' fun σ2 H2 => wipe σ2 vs = wipe σ vs ∧ tt σ2 H2 fun b H3 =>
    if b = true then tk σ2 H3 fun y H4 => tv σ2 H4 fun z H5 => ∃ H6, DPut H5 D y z H6 ∧ Nx H6 else Nx H3)
/-- {y: g(y) for y in signs} -/
theorem dp_signs {ys : List Str} (hs : SqL K H1 a (ys.map V.str)) (nd : ys.Nodup) (hz : ys.length ≤ 1000) (hD : H1 D = none) (g : Str → Int) (hw : ∀ y ∈ ys, wipe ((wipe σ vs).set j (some (.str y))) vs = wipe σ vs)
    (hk : ∀ y ∈ ys, ∀ H2, Same H1 H2 → ∀ Q : VK, Q (.str y) H2 → tk ((wipe σ vs).set j (some (.str y))) H2 Q) (hv : ∀ y ∈ ys, ∀ H2, Same H1 H2 → ∀ Q : VK, (∀ H3, Same H2 H3 → Q (.int (g y)) H3) → tv ((wipe σ vs).set j (some (.str y))) H2 Q)
    (hd : ∀ H', Same H1 H' → H' D = some (.dK (dkF ys g)) → Qd H') : DcGoal (.dK []) (Itl K a) (gName j) tYes tk tv vs σ H1 D Qd := by
  refine dp_it walk_list (fun i H' => Same H1 H' ∧ H' D = some (.dK (dkF (ys.take i) g))) ⟨same_new hD, by rw [List.take_zero]; exact upd_same⟩ (fun i H' _ e => Same.seq e.1 hs) (fun i x H H' hi e y => ?_) (fun H' e => ?_)
  · obtain ⟨rfl, hx⟩ := y
    obtain ⟨e1, e2⟩ := e
    rw [List.getElem?_map] at hx
    obtain ⟨y, hy, rfl⟩ := Option.map_eq_some_iff.mp hx
    have hm := List.mem_of_getElem? hy
    refine ⟨hw y hm, yes_q (iteT (hk y hm _ e1 _ (hv y hm _ e1 _ fun H3 e3 => ⟨_, .inl ⟨_, .inr y, e3 _ _ e2, rfl, ?_, rfl⟩, fun b o q => ?_, ?_⟩)))⟩
    · have : 100000 < sizeLine := by decide
      simp [dkF]
      omega
    · rw [upd_ne (ne_of_none q hD)]; exact e3 _ _ (e1 _ _ q)
    · rw [upd_same, dkF_put g nd hy]
  · obtain ⟨e1, e2⟩ := e
    refine hd H' e1 ?_
    rw [List.length_map, List.take_length] at e2
    exact e2
/-- {pair: price for pair in a list of pairs} -/
theorem dp_pairs {F : List (((Str × Str) × Int) × Addr)} (hs : SqL K H1 a (F.map fun e => V.ref e.2)) (nd : ((F.map Prod.fst).map Prod.fst).Nodup) (hz : F.length ≤ 1000) (hF : ∀ e ∈ F, H1 e.2 = some (.tup [.str e.1.1.1, .str e.1.1.2])) (hD : H1 D = none) (hw : ∀ e ∈ F, wipe ((wipe σ vs).set j (some (.ref e.2))) vs = wipe σ vs)
    (hk : ∀ e ∈ F, ∀ H2, Same H1 H2 → ∀ Q : VK, Q (.ref e.2) H2 → tk ((wipe σ vs).set j (some (.ref e.2))) H2 Q) (hv : ∀ e ∈ F, ∀ H2, Same H1 H2 → ∀ Q : VK, (∀ H3, Same H2 H3 → Q (.int e.1.2) H3) → tv ((wipe σ vs).set j (some (.ref e.2))) H2 Q)
    (hd : ∀ H', Same H1 H' → H' D = some (.dT (dtF (F.map Prod.fst))) → Qd H') : DcGoal (.dT []) (Itl K a) (gName j) tYes tk tv vs σ H1 D Qd := by
  refine dp_it walk_list (fun i H' => Same H1 H' ∧ H' D = some (.dT (dtF ((F.map Prod.fst).take i)))) ⟨same_new hD, by rw [List.take_zero]; exact upd_same⟩ (fun i H' _ e => Same.seq e.1 hs) (fun i x H H' hi e y => ?_) (fun H' e => ?_)
  · obtain ⟨rfl, hx⟩ := y
    obtain ⟨e1, e2⟩ := e
    rw [List.getElem?_map] at hx
    obtain ⟨f, hf, rfl⟩ := Option.map_eq_some_iff.mp hx
    have hm := List.mem_of_getElem? hf
    have hi2 : (F.map Prod.fst)[i]? = some ((f.1.1.1, f.1.1.2), f.1.2) := by rw [List.getElem?_map, hf]; rfl
    refine ⟨hw f hm, yes_q (iteT (hk f hm _ e1 _ (hv f hm _ e1 _ fun H3 e3 => ⟨_, .inr ⟨_, [.inr f.1.1.1, .inr f.1.1.2], f.2, e3 _ _ e2, rfl, e3 _ _ (e1 _ _ (hF f hm)), ?_, rfl⟩, fun b o q => ?_, ?_⟩)))⟩
    · have : 100000 < sizeLine := by decide
      simp [dtF]
      omega
    · rw [upd_ne (ne_of_none q hD)]; exact e3 _ _ (e1 _ _ q)
    · rw [upd_same, dtF_put nd hi2]
  · obtain ⟨e1, e2⟩ := e
    refine hd H' e1 ?_
    rw [List.length_map, ← List.length_map (f := Prod.fst), List.take_length] at e2
    exact e2
end
/-- an instance with put, out and swap prices (Prices, Closed) -/
def PrAt (C : Addr) (H : Hp) (x dx : Addr) (ys ys2 : List Str) (g o : Str → Int) (qs : List ((Str × Str) × Int)) : Prop :=
  ∃ A B S ws, Sl2 H x C dx ws ∧ ws[1]? = some (some (.ref A)) ∧ ws[0]? = some (some (.ref B)) ∧ ws[2]? = some (some (.ref S)) ∧ A ≠ B ∧ H A = some (.dK (dkF ys g)) ∧ H B = some (.dK (dkF ys2 o)) ∧ H S = some (.dT (dtF qs))
theorem PrAt.same {C : Addr} {H H' : Hp} {x dx : Addr} {ys ys2 : List Str} {g o : Str → Int} {qs : List ((Str × Str) × Int)} (h : PrAt C H x dx ys ys2 g o qs) (e : Same H H') : PrAt C H' x dx ys ys2 g o qs := by
  obtain ⟨A, B, S, ws, h1, h2, h3, h4, h5, h6, h7, h8⟩ := h
  exact ⟨A, B, S, ws, ⟨e _ _ h1.1, e _ _ h1.2⟩, h2, h3, h4, h5, e _ _ h6, e _ _ h7, e _ _ h8⟩
/-- a class with these slots -/
structure SlotC (K : PySem.W.Frag) (C : Addr) : Prop where
  sc : SlX.SCls K C
  s0 : ∃ p, SlX.Slot1 K C "own_out" p 0
  s1 : ∃ p, SlX.Slot1 K C "own_put" p 1
  s2 : ∃ p, SlX.Slot1 K C "own_swap" p 2
theorem Sl2.slt {H : Hp} {a C dx : Addr} {ws : List (Option V)} (h : Sl2 H a C dx ws) : SlX.Slt H a C dx ws := .inr h
theorem PrN.perm {zs zs2 ys ys2 : List Str} {g o : Str → Int} {ps qs : List ((Str × Str) × Int)} (N : PrN zs zs2 g o ps) (h1 : ys.Perm zs) (h2 : ys2.Perm zs) (h3 : qs.Perm ps) : PrN ys ys2 g o qs := by
  refine ⟨fun z h => N.sg z (h1.mem_iff.mp h), h1.nodup_iff.mpr N.nd, by rw [h1.length_eq]; exact N.pos, by rw [h1.length_eq]; exact N.le, h2.trans h1.symm, fun z h => N.pg z (h1.mem_iff.mp h), fun z h => N.po z (h1.mem_iff.mp h), (h3.map _).nodup_iff.mpr N.sn, fun x h => ?_, by rw [h3.length_eq]; exact N.sl⟩
  obtain ⟨a, b, c⟩ := N.sp x (h3.mem_iff.mp h)
  exact ⟨h1.mem_iff.mpr a, h1.mem_iff.mpr b, c⟩
/-- the pairs of a dict and their tuples' places -/
theorem keys_zip {H : Hp} {ps : List ((Str × Str) × Int)} {bs : List Addr} (h : IsKeys H (dtF ps) bs) : ∃ F : List (((Str × Str) × Int) × Addr), F.map Prod.fst = ps ∧ F.map Prod.snd = bs ∧ ∀ e ∈ F, H e.2 = some (.tup [.str e.1.1.1, .str e.1.1.2]) := by
  induction ps generalizing bs with
  | nil => cases h; exact ⟨[], rfl, rfl, fun _ h => nomatch h⟩
  | cons p ps ih =>
    cases h with
    | cons h1 h2 =>
      rename_i b bs
      obtain ⟨F, e1, e2, e3⟩ := ih h2
      refine ⟨(p, b) :: F, by rw [List.map_cons, e1], by rw [List.map_cons, e2], fun e he => ?_⟩
      rcases List.mem_cons.mp he with rfl | he
      · exact h1
      · exact e3 e he
section
variable {P : Program} {w : World} {K : PySem.W.Frag} {mg : Str → Option Value} {base : Heap}
def spPInit (C : Addr) : Sp := fun vs H Q _ => ∃ x dx a b c zs zs2 g o ps, vs = [.ref x, .ref a, .ref b, .ref c] ∧ H x = some (.ins C dx []) ∧ H dx = some (.own x) ∧ dx ≠ x ∧
  H a = some (.dK (dkF zs g)) ∧ H b = some (.dK (dkF zs2 o)) ∧ H c = some (.dT (dtF ps)) ∧ a ≠ b ∧ PrN zs zs2 g o ps ∧
  ∀ H' ys ys2 qs, Kp x dx H H' → PrAt C H' x dx ys ys2 g o qs → PrN ys ys2 g o qs → ys.Perm zs → sortedS ys = true → qs.Perm ps → Q .non H'
abbrev N_pinit : List Str := ["self", "put", "out", "swap", "sign", "pair"]
theorem sc_pinit : FnScope N_pinit ["self", "put", "out", "swap"] (defScope (inClass (top 21) 1)) := ⟨rfl, rfl, rfl, by decide +kernel, rfl, by decide +kernel, by decide +kernel⟩
theorem f_pinit {C f : Addr} {fd : FuncData} (PC : SlotC K C) (F : FunAt K "__init__" "Prices.__init__" (inClass (top 21) 1) [] f fd) (B : Blt mg) (c_are_prices : Cal P w K mg base 3 "are_prices" spAreP) : FnOk P w K mg base CX0 4 f fd ["self", "put", "out", "swap"] (spPInit C) := by
  refine fnok_of F sc_pinit (fun vs H Q E h => ?_) (fun cdv A outer s H vs Q E hr h => ?_)
  · obtain ⟨_, _, _, _, _, _, _, _, _, _, rfl, _⟩ := h; rfl
  · obtain ⟨x, dx, a, b, c, zs, zs2, g, o, ps, rfl, hx, hdx, dxx, ha, hb, hc, nab, N, hQ⟩ := h
    obtain ⟨p0, s0⟩ := PC.s0
    obtain ⟨p1, s1⟩ := PC.s1
    obtain ⟨p2, s2⟩ := PC.s2
    refine ⟨_, pss_cons (ps_if (pt_not (pt_val (pe_c c_are_prices hr (by decide) (by rfl) (pa_cons (pv 1) (pa_cons (pv 2) (pa_cons (pv 3) pa_nil)))))) (pss_one ps_never) pss_nil)
      (pss_cons (SlX.ps_sl (pv 0) (pe_dp1 (own := [("sign", 4)]) (o0 := .dK []) (g := gName 4) (tt := tYes) rfl (hu_of hr) sc_pinit.nd (pi_list (pe_callB cr_sortedS (by rfl) B.sorted (by decide +kernel) (pa_cons (pe_callTy (call_list_dK rfl) (by rfl) B.list (by decide +kernel) (pa_cons (pv 1) pa_nil)) pa_nil)))
        (blkOk_by (own := [("sign", 4)]) (N := N_pinit) (sc := defScope (inClass (top 21) 1)) (by decide +kernel)) (fun _ _ _ _ _ => (pg_name (i := 4) sc_pinit.nd rfl (Or.inl rfl))) (fun _ _ _ _ _ => pts_nil) (fun _ _ _ _ _ => pv 4) (fun _ _ _ _ _ => pe_dget (hu_of hr) (pv 1) (pv 4) (fun _ _ => rfl)) (.inl rfl)))
      (pss_cons (SlX.ps_sl (pv 0) (pe_dp1 (own := [("sign", 4)]) (o0 := .dK []) (g := gName 4) (tt := tYes) rfl (hu_of hr) sc_pinit.nd (pi_list (pe_callB cr_sortedS (by rfl) B.sorted (by decide +kernel) (pa_cons (pe_callTy (call_list_dK rfl) (by rfl) B.list (by decide +kernel) (pa_cons (pv 1) pa_nil)) pa_nil)))
        (blkOk_by (own := [("sign", 4)]) (N := N_pinit) (sc := defScope (inClass (top 21) 1)) (by decide +kernel)) (fun _ _ _ _ _ => (pg_name (i := 4) sc_pinit.nd rfl (Or.inl rfl))) (fun _ _ _ _ _ => pts_nil) (fun _ _ _ _ _ => pv 4) (fun _ _ _ _ _ => pe_dget (hu_of hr) (pv 2) (pv 4) (fun _ _ => rfl)) (.inl rfl)))
      (pss_one (SlX.ps_sl (pv 0) (pe_dp1 (own := [("pair", 5)]) (o0 := .dT []) (g := gName 5) (tt := tYes) rfl (hu_of hr) sc_pinit.nd (pi_list (pe_callB (cr_sortedD hr.units) (by rfl) B.sorted (by decide +kernel) (pa_cons (pe_callTy (call_list_dT rfl) (by rfl) B.list (by decide +kernel) (pa_cons (pv 3) pa_nil)) pa_nil)))
        (blkOk_by (own := [("pair", 5)]) (N := N_pinit) (sc := defScope (inClass (top 21) 1)) (by decide +kernel)) (fun _ _ _ _ _ => (pg_name (i := 5) sc_pinit.nd rfl (Or.inl rfl))) (fun _ _ _ _ _ => pts_nil) (fun _ _ _ _ _ => pv 5) (fun _ _ _ _ _ => pe_dget (hu_of hr) (pv 3) (pv 5) (fun _ _ => rfl)) (.inr rfl)))))), ?_⟩
    refine ⟨_, rfl, _, rfl, _, rfl, a, b, c, zs, zs2, g, o, ps, rfl, ha, hb, hc, nab, N, fun H1 e1 => ⟨_, rfl, iteF ?_⟩⟩
    have keyz : ∀ f : Str → Int, (dkF zs f).map (fun kv => kV kv.1) = zs.map V.str := fun f => by unfold dkF; rw [List.map_map]; rfl
    have l64 : zs.length < 64 := by have := N.le; omega
    have apart : ∀ {t : Addr} {kvs : List (Key × V)}, H t = some (.dK kvs) → t ≠ x ∧ t ≠ dx := fun h => ⟨fun z => (by rw [z, hx] at h; cases h), fun z => (by rw [z, hdx] at h; cases h)⟩
    have cx : c ≠ x := fun z => by rw [z, hx] at hc; cases hc
    have cd : c ≠ dx := fun z => by rw [z, hdx] at hc; cases hc
    obtain ⟨ax, ad⟩ := apart ha
    obtain ⟨bx, bd⟩ := apart hb
    have k1 : Kp x dx H H1 := fun b o _ _ q => e1 _ _ q
    -- own_put
    refine ⟨_, rfl, a, _, rfl, k1 _ _ ax ad ha, fun q hq => ⟨q, zs, rfl, .inl (.inl (by rw [keyz]; exact upd_same)), l64, fun ys p hys hso hp => ?_⟩⟩
    refine ⟨p, rfl, ⟨_, .inl (.inl upd_same)⟩, fun D hD => ?_⟩
    have e2 : Same H1 (upd (upd H1 q (.lst ((dkF zs g).map fun kv => kV kv.1))) p (.lst (ys.map V.str))) := (same_new hq).trans (same_new hp)
    refine dp_signs (.inl (.inl upd_same)) (hys.nodup_iff.mpr N.nd) (by have := hys.length_eq; omega) hD g (fun _ _ => rfl) (fun y _ H2 _ Q q => ⟨_, rfl, q⟩) (fun y hy H2 e Q q => ⟨_, rfl, _, rfl, a, .int (g y), rfl, .inl ⟨_, .inr y, .inl (e _ _ (e2 _ _ (k1 _ _ ax ad ha))), rfl, (dkF_val N.nd g (hys.mem_iff.mp hy)).symm⟩, q _ (Same.refl _)⟩) (fun H2 e3 hD2 => ?_)
    have e4 := e2.trans e3
    refine ⟨_, rfl, x, C, dx, p1, [], 1, rfl, .inl ⟨e4 _ _ (e1 _ _ hx), rfl⟩, PC.sc, s1, ?_⟩
    have fD : H1 D = none := e2.free hD
    have Dx : D ≠ x := (ne_of_none (e1 _ _ hx) fD).symm
    have Dd : D ≠ dx := (ne_of_none (e1 _ _ hdx) fD).symm
    have k3 : Kp x dx H (SlX.slH H2 x C dx (SlX.putS 1 (.ref D) [])) := (k1.same e4).sl
    have z3 : Sl2 (SlX.slH H2 x C dx (SlX.putS 1 (.ref D) [])) x C dx (SlX.putS 1 (.ref D) []) := slH_sl2 dxx
    have w3 : (SlX.putS 1 (.ref D) [])[1]? = some (some (.ref D)) := SlX.putS_get _ _ _
    have hD3 : SlX.slH H2 x C dx (SlX.putS 1 (.ref D) []) D = some (.dK (dkF ys g)) := by rw [SlX.slH_ne Dx Dd]; exact hD2
    generalize SlX.putS 1 (.ref D) [] = v3 at *
    generalize SlX.slH H2 x C dx v3 = H3 at *
    clear hD hD2 fD hp hq e2 e3 e4 k1 e1
    -- own_out
    refine ⟨_, rfl, a, _, rfl, k3 _ _ ax ad ha, fun q hq => ⟨q, zs, rfl, .inl (.inl (by rw [keyz]; exact upd_same)), l64, fun ys2 p hys2 _ hp => ?_⟩⟩
    refine ⟨p, rfl, ⟨_, .inl (.inl upd_same)⟩, fun D5 hD5 => ?_⟩
    have e2 : Same H3 (upd (upd H3 q (.lst ((dkF zs g).map fun kv => kV kv.1))) p (.lst (ys2.map V.str))) := (same_new hq).trans (same_new hp)
    refine dp_signs (.inl (.inl upd_same)) (hys2.nodup_iff.mpr N.nd) (by have := hys2.length_eq; omega) hD5 o (fun _ _ => rfl) (fun y _ H2 _ Q q => ⟨_, rfl, q⟩) (fun y hy H2 e Q q => ⟨_, rfl, _, rfl, b, .int (o y), rfl, .inl ⟨_, .inr y, .inl (e _ _ (e2 _ _ (k3 _ _ bx bd hb))), rfl, (dkF_val (N.pm.nodup_iff.mpr N.nd) o (N.pm.mem_iff.mpr (hys2.mem_iff.mp hy))).symm⟩, q _ (Same.refl _)⟩) (fun H4 e3 hD6 => ?_)
    have e4 := e2.trans e3
    refine ⟨_, rfl, x, C, dx, p0, v3, 0, rfl, slt_same e4 (.inr z3), PC.sc, s0, ?_⟩
    have fD : H3 D5 = none := e2.free hD5
    have D5x : D5 ≠ x := (ne_of_none z3.1 fD).symm
    have D5d : D5 ≠ dx := (ne_of_none z3.2 fD).symm
    have n5 : D ≠ D5 := ne_of_none hD3 fD
    have k5 : Kp x dx H (SlX.slH H4 x C dx (SlX.putS 0 (.ref D5) v3)) := (k3.same e4).sl
    have z5 : Sl2 (SlX.slH H4 x C dx (SlX.putS 0 (.ref D5) v3)) x C dx (SlX.putS 0 (.ref D5) v3) := slH_sl2 dxx
    have w5 : (SlX.putS 0 (.ref D5) v3)[0]? = some (some (.ref D5)) := SlX.putS_get _ _ _
    have w5' : (SlX.putS 0 (.ref D5) v3)[1]? = some (some (.ref D)) := (SlX.putS_ne (by decide)).mpr w3
    have hD7 : SlX.slH H4 x C dx (SlX.putS 0 (.ref D5) v3) D5 = some (.dK (dkF ys2 o)) := by rw [SlX.slH_ne D5x D5d]; exact hD6
    have hD8 : SlX.slH H4 x C dx (SlX.putS 0 (.ref D5) v3) D = some (.dK (dkF ys g)) := by rw [SlX.slH_ne Dx Dd]; exact e4 _ _ hD3
    generalize SlX.putS 0 (.ref D5) v3 = v5 at *
    generalize SlX.slH H4 x C dx v5 = H5 at *
    clear hD5 hD6 fD hp hq e2 e3 e4 k3 z3 w3 hD3
    -- own_swap
    refine ⟨_, rfl, c, _, rfl, .inl (k5 _ _ cx cd hc), fun q bs hq hbs => ?_⟩
    obtain ⟨F0, f1, f2, f3⟩ := keys_zip hbs
    have up1 := same_new (o := .lst (bs.map V.ref)) hq
    refine ⟨q, F0.map fun e => (V.ref e.2, PyData.tuple [.str e.1.1.1, .str e.1.1.2]), rfl, .inl (.inl ?_), fun y hy => ?_, fun d1 h1 d2 h2 => ?_, .inl fun d hd => ?_, fun y hy => ?_, fun p hp => ?_⟩
    · rw [upd_same, List.map_map, ← f2, List.map_map]; rfl
    · obtain ⟨e, he, rfl⟩ := List.mem_map.mp hy
      exact dpT (zs := [e.1.1.1, e.1.1.2]) (.inl (.inl (up1 _ _ (f3 e he))))
    · rw [List.map_map] at h1 h2
      obtain ⟨e1, _, rfl⟩ := List.mem_map.mp h1
      obtain ⟨e2, _, rfl⟩ := List.mem_map.mp h2
      rfl
    · rw [List.map_map] at hd
      obtain ⟨e1, _, rfl⟩ := List.mem_map.mp hd
      exact ⟨_, _, rfl⟩
    · obtain ⟨e, he, rfl⟩ := List.mem_map.mp hy
      show PyData.depth _ ≤ 8
      simp [PyData.depth, PyData.depthAll]
    obtain ⟨F', pF, eF⟩ := perm_map_ex (List.mergeSort_perm (F0.map fun e => (V.ref e.2, PyData.tuple [.str e.1.1.1, .str e.1.1.2])) (PySem.W.dataLe false Prod.snd))
    rw [eF, List.map_map] at *
    have pq : (F'.map Prod.fst).Perm ps := by rw [← f1]; exact pF.map _
    have up2 := up1.trans (same_new (o := .lst (F'.map (Prod.fst ∘ fun e : ((Str × Str) × Int) × Addr => (V.ref e.2, PyData.tuple [.str e.1.1.1, .str e.1.1.2])))) hp)
    refine ⟨p, rfl, ⟨_, .inl (.inl upd_same)⟩, fun D9 hD9 => ?_⟩
    refine dp_pairs (F := F') (.inl (.inl upd_same)) ((pq.map _).nodup_iff.mpr N.sn) ?_ (fun e he => up2 _ _ (f3 e (pF.mem_iff.mp he))) hD9 (fun _ _ => rfl) (fun y _ H2 _ Q q => ⟨_, rfl, q⟩) (fun y hy H2 e Q q => ⟨_, rfl, _, rfl, c, .int y.1.2, rfl, .inr ⟨_, [.inr y.1.1.1, .inr y.1.1.2], y.2, .inl (e _ _ (up2 _ _ (k5 _ _ cx cd hc))), rfl, e _ _ (up2 _ _ (f3 y (pF.mem_iff.mp hy))), (dtF_val N.sn (pq.mem_iff.mp (List.mem_map.mpr ⟨y, hy, rfl⟩))).symm⟩, q _ (Same.refl _)⟩) (fun H6 e6 hD6 => ?_)
    · have := N.sl
      have := pq.length_eq
      rw [List.length_map] at this
      omega
    have e7 := up2.trans e6
    have z7 := z5
    refine ⟨_, rfl, x, C, dx, p2, v5, 2, rfl, slt_same e7 (.inr z5), PC.sc, s2, ?_⟩
    have fD : H5 D9 = none := up2.free hD9
    have D9x : D9 ≠ x := (ne_of_none z5.1 fD).symm
    have D9d : D9 ≠ dx := (ne_of_none z5.2 fD).symm
    refine hQ _ ys ys2 (F'.map Prod.fst) (k5.same e7).sl ⟨D, D5, D9, _, slH_sl2 dxx, (SlX.putS_ne (by decide)).mpr w5', (SlX.putS_ne (by decide)).mpr w5, SlX.putS_get _ _ _, n5, ?_, ?_, ?_⟩ (N.perm hys hys2 pq) hys hso pq
    · rw [SlX.slH_ne Dx Dd]; exact e7 _ _ hD8
    · rw [SlX.slH_ne D5x D5d]; exact e7 _ _ hD7
    · rw [SlX.slH_ne D9x D9d]; exact hD6
end
end MN
/-! nodes and signs; tables of prices by pairs of nodes -/
namespace MN
open PySem PySem.Spec PyProof.Rows L2
def sgS (c : Nat) : Str := ⟨#[c]⟩
def nS : Nd → Str
  | none => ""
  | some c => sgS c
theorem nS_inj : ∀ {x y : Nd}, nS x = nS y → x = y
  | none, none, _ => rfl
  | none, some c, h => by
    have h' : (("" : Str)).length = (sgS c).length := by rw [show ("" : Str) = sgS c from h]
    cases h'
  | some c, none, h => by
    have h' : (("" : Str)).length = (sgS c).length := by rw [show sgS c = ("" : Str) from h]
    cases h'
  | some c, some d, h => by
    have h' : sgS c = sgS d := h
    simp [sgS] at h'
    rw [h']
/-- the codes of signs -/
def codesOf (zs : List Str) : List Nat := zs.map fun z => z.cps.toList.headD 0
theorem codes_sg {zs : List Str} (h : ∀ z ∈ zs, ∃ c ∈ ("abcde" : Str).cps.toList, z = ⟨#[c]⟩) : (codesOf zs).map sgS = zs := by
  unfold codesOf
  rw [List.map_map]
  conv => rhs; rw [← List.map_id zs]
  refine List.map_congr_left fun z hz => ?_
  obtain ⟨c, _, rfl⟩ := h z hz
  rfl
theorem mem_codes {zs : List Str} (h : ∀ z ∈ zs, ∃ c ∈ ("abcde" : Str).cps.toList, z = ⟨#[c]⟩) {c : Nat} : c ∈ codesOf zs ↔ sgS c ∈ zs := by
  constructor
  · intro hc
    rw [← codes_sg h]
    exact List.mem_map.mpr ⟨c, hc, rfl⟩
  · intro hc
    rw [← codes_sg h] at hc
    obtain ⟨d, hd, e⟩ := List.mem_map.mp hc
    have := nS_inj (x := some d) (y := some c) e
    cases this
    exact hd
theorem codes_nodup {zs : List Str} (h : ∀ z ∈ zs, ∃ c ∈ ("abcde" : Str).cps.toList, z = ⟨#[c]⟩) (nd : zs.Nodup) : (codesOf zs).Nodup := by
  rw [← codes_sg h, List.Nodup, List.pairwise_map] at nd
  exact nd.imp fun {a b} hab e => hab (by rw [e])
/-- the nodes -/
def ndOf (L : List Nat) : List Nd := none :: L.map some
theorem mem_nd {L : List Nat} {x : Nd} : x ∈ ndOf L ↔ InL L x := by
  unfold ndOf
  cases x with
  | none => simp [InL]
  | some a => simp [InL]
theorem nd_nodup {L : List Nat} (h : L.Nodup) : (ndOf L).Nodup := by
  unfold ndOf
  rw [List.nodup_cons]
  refine ⟨by simp, ?_⟩
  rw [List.Nodup, List.pairwise_map]
  exact h.imp fun {a b} hab e => hab (Option.some.inj e)
def findP (qs : List ((Str × Str) × Int)) (x y : Str) : Option Int := (qs.find? fun q => decide (q.1 = (x, y))).map (·.2)
theorem findP_some {qs : List ((Str × Str) × Int)} (nd : (qs.map Prod.fst).Nodup) {x y : Str} {p : Int} : findP qs x y = some p ↔ ((x, y), p) ∈ qs := by
  unfold findP
  constructor
  · intro h
    obtain ⟨q, hq, rfl⟩ := Option.map_eq_some_iff.mp h
    have h1 := List.mem_of_find?_eq_some hq
    have h2 : q.1 = (x, y) := by simpa using List.find?_some hq
    rw [← h2]
    exact h1
  · intro h
    induction qs with
    | nil => cases h
    | cons q qs ih =>
      rw [List.map_cons, List.nodup_cons] at nd
      rw [List.find?_cons]
      rcases List.mem_cons.mp h with rfl | h
      · simp
      · have : q.1 ≠ (x, y) := fun e => nd.1 (by rw [e]; exact List.mem_map.mpr ⟨_, h, rfl⟩)
        simp only [this, decide_false]
        exact ih nd.2 h
theorem findP_perm {qs qs' : List ((Str × Str) × Int)} (nd : (qs.map Prod.fst).Nodup) (h : qs'.Perm qs) (x y : Str) : findP qs' x y = findP qs x y := by
  have nd' : (qs'.map Prod.fst).Nodup := (h.map _).nodup_iff.mpr nd
  cases e : findP qs x y with
  | some p => exact (findP_some nd').mpr (h.mem_iff.mpr ((findP_some nd).mp e))
  | none =>
    cases e' : findP qs' x y with
    | none => rfl
    | some p =>
      have := (findP_some nd).mpr (h.mem_iff.mp ((findP_some nd').mp e'))
      rw [e] at this
      cases this
/-- the prices, by nodes -/
def rOf (L : List Nat) (g o : Str → Int) (qs : List ((Str × Str) × Int)) : Nd → Nd → Option Int
  | none, none => none
  | none, some b => if b ∈ L then some (g (sgS b)) else none
  | some a, none => if a ∈ L then some (o (sgS a)) else none
  | some a, some b => findP qs (sgS a) (sgS b)
theorem rOf_pos {zs zs2 : List Str} {g o : Str → Int} {ps : List ((Str × Str) × Int)} (N : PrN zs zs2 g o ps) : ∀ x y p, rOf (codesOf zs) g o ps x y = some p → 1 ≤ p := by
  intro x y p h
  cases x with
  | none =>
    cases y with
    | none => cases h
    | some b =>
      change (if b ∈ codesOf zs then some (g (sgS b)) else none) = some p at h
      split at h
      · rename_i hb
        cases h
        exact (N.pg _ ((mem_codes N.sg).mp hb)).1
      · cases h
  | some a =>
    cases y with
    | none =>
      change (if a ∈ codesOf zs then some (o (sgS a)) else none) = some p at h
      split at h
      · rename_i hb
        cases h
        exact (N.po _ ((mem_codes N.sg).mp hb)).1
      · cases h
    | some b =>
      have := N.sp _ ((findP_some N.sn).mp h)
      exact this.2.2.2.1
theorem rOf_all {L : List Nat} {g o : Str → Int} {ps : List ((Str × Str) × Int)} : ∀ a ∈ L, (∃ p, rOf L g o ps none (some a) = some p) ∧ ∃ p, rOf L g o ps (some a) none = some p := fun a h => ⟨⟨_, if_pos h⟩, ⟨_, if_pos h⟩⟩
theorem rOf_in {zs zs2 : List Str} {g o : Str → Int} {ps : List ((Str × Str) × Int)} (N : PrN zs zs2 g o ps) {x y : Nd} {p : Int} (h : rOf (codesOf zs) g o ps x y = some p) : InL (codesOf zs) x ∧ InL (codesOf zs) y ∧ x ≠ y := by
  cases x with
  | none =>
    cases y with
    | none => cases h
    | some b =>
      change (if b ∈ codesOf zs then some (g (sgS b)) else none) = some p at h
      split at h
      · rename_i hb
        exact ⟨InL.no, InL.of hb, fun e => nomatch e⟩
      · cases h
  | some a =>
    cases y with
    | none =>
      change (if a ∈ codesOf zs then some (o (sgS a)) else none) = some p at h
      split at h
      · rename_i hb
        exact ⟨InL.of hb, InL.no, fun e => nomatch e⟩
      · cases h
    | some b =>
      have := N.sp _ ((findP_some N.sn).mp h)
      exact ⟨InL.of ((mem_codes N.sg).mpr this.1), InL.of ((mem_codes N.sg).mpr this.2.1), fun e => this.2.2.1 (by cases e; rfl)⟩
/-- what Clo says hangs on the prices of the nodes alone -/
theorem Clo.congr {L : List Nat} {r r' : Nd → Nd → Option Int} {c : Nd → Nd → Int} (C : Clo L r c) (h : ∀ x y, InL L x → InL L y → r' x y = r x y) : Clo L r' c := by
  refine ⟨C.z, C.pos, C.tri, fun x y p hx hy e => C.le x y p hx hy (by rw [← h x y hx hy]; exact e), fun x y hx hy n => ?_⟩
  obtain ⟨z, p, hz, nz, e, q⟩ := C.last x y hx hy n
  exact ⟨z, p, hz, nz, by rw [h z y hz hy]; exact e, q⟩
theorem Clo.perm {L L' : List Nat} {r : Nd → Nd → Option Int} {c : Nd → Nd → Int} (C : Clo L r c) (h : ∀ a, a ∈ L' ↔ a ∈ L) : Clo L' r c := by
  have k : ∀ x, InL L' x → InL L x := fun x hx a e => (h a).mp (hx a e)
  have k' : ∀ x, InL L x → InL L' x := fun x hx a e => (h a).mpr (hx a e)
  refine ⟨C.z, fun x y hx hy n => C.pos x y (k x hx) (k y hy) n, fun x y z hx hy hz => C.tri x y z (k x hx) (k y hy) (k z hz), fun x y p hx hy e => C.le x y p (k x hx) (k y hy) e, fun x y hx hy n => ?_⟩
  obtain ⟨z, p, hz, nz, e, q⟩ := C.last x y (k x hx) (k y hy) n
  exact ⟨z, p, k' z hz, nz, e, q⟩
theorem Clo.uniq {L : List Nat} {r : Nd → Nd → Option Int} {c c' : Nd → Nd → Int} (C : Clo L r c) (C' : Clo L r c') : ∀ x y, InL L x → InL L y → c x y = c' x y := by
  have key : ∀ {c c' : Nd → Nd → Int}, Clo L r c → Clo L r c' → ∀ (n : Nat) (x y : Nd), InL L x → InL L y → c' x y ≤ n → c x y ≤ c' x y := by
    intro c c' C C' n
    induction n with
    | zero =>
      intro x y hx hy h
      by_cases e : x = y
      · subst e; rw [C.z, C'.z]; exact Int.le_refl _
      · have := C'.pos x y hx hy e; omega
    | succ n ih =>
      intro x y hx hy h
      by_cases e : x = y
      · subst e; rw [C.z, C'.z]; exact Int.le_refl _
      · obtain ⟨z, p, hz, nz, er, ec⟩ := C'.last x y hx hy e
        have p0 := C'.le z y p hz hy er
        have p1 := C'.pos z y hz hy nz
        have h1 := ih x z hx hz (by omega)
        have h2 := C.tri x z y hx hz hy
        have h3 := C.le z y p hz hy er
        omega
  intro x y hx hy
  have n1 : 0 ≤ c' x y := by
    by_cases e : x = y
    · subst e; rw [C'.z]; exact Int.le_refl _
    · have := C'.pos x y hx hy e; omega
  have n2 : 0 ≤ c x y := by
    by_cases e : x = y
    · subst e; rw [C.z]; exact Int.le_refl _
    · have := C.pos x y hx hy e; omega
  have h1 := key C C' (c' x y).toNat x y hx hy (by omega)
  have h2 := key C' C (c x y).toNat x y hx hy (by omega)
  omega
theorem Dc_congr {L : List Nat} {c c' : Nd → Nd → Int} (h : ∀ x y, InL L x → InL L y → c x y = c' x y) : ∀ u v : List Nat, (∀ a ∈ u, a ∈ L) → (∀ a ∈ v, a ∈ L) → Dc c u v = Dc c' u v
  | [], [], _, _ => by simp only [Dc]
  | [], y :: v, hu, hv => by
    simp only [Dc]
    rw [Dc_congr h [] v hu fun a q => hv a (List.mem_cons_of_mem _ q), h _ _ InL.no (InL.of (hv y List.mem_cons_self))]
  | x :: u, [], hu, hv => by
    simp only [Dc]
    rw [Dc_congr h u [] (fun a q => hu a (List.mem_cons_of_mem _ q)) hv, h _ _ (InL.of (hu x List.mem_cons_self)) InL.no]
  | x :: u, y :: v, hu, hv => by
    have hu' : ∀ a ∈ u, a ∈ L := fun a q => hu a (List.mem_cons_of_mem _ q)
    have hv' : ∀ a ∈ v, a ∈ L := fun a q => hv a (List.mem_cons_of_mem _ q)
    have hx := InL.of (hu x List.mem_cons_self)
    have hy := InL.of (hv y List.mem_cons_self)
    simp only [Dc]
    rw [Dc_congr h u v hu' hv', Dc_congr h u (y :: v) hu' hv, Dc_congr h (x :: u) v hu hv', h _ _ hx hy, h _ _ hx InL.no, h _ _ InL.no hy]
/-! ### a table as a dict -/
abbrev kN (x y : Nd) : List Key := [.inr (nS x), .inr (nS y)]
theorem kN_inj {x y a b : Nd} (h : kN x y = kN a b) : x = a ∧ y = b := by
  injection h with h1 h2
  injection h2 with h2 _
  exact ⟨nS_inj (Sum.inr.inj h1), nS_inj (Sum.inr.inj h2)⟩
structure TabAt (L : List Nat) (kvs : List (List Key × V)) (O : Nd → Nd → Option Int) : Prop where
  nd : (kvs.map (·.1)).Nodup
  ks : ∀ k ∈ kvs.map (·.1), ∃ x ∈ ndOf L, ∃ y ∈ ndOf L, k = kN x y
  vl : ∀ x y, valV kvs (kN x y) = (O x y).map V.int
def putO (O : Nd → Nd → Option Int) (x y : Nd) (n : Int) : Nd → Nd → Option Int := fun a b => if a = x ∧ b = y then some n else O a b
theorem putK_keys {α : Type} [DecidableEq α] (kvs : List (α × V)) (k : α) (v : V) : (putK kvs k v).map (·.1) = if k ∈ kvs.map (·.1) then kvs.map (·.1) else kvs.map (·.1) ++ [k] := by
  unfold putK
  by_cases h : k ∈ kvs.map (·.1)
  · rw [if_pos h, if_pos]
    · rw [List.map_map]
      refine List.map_congr_left fun kv _ => ?_
      show (if kv.1 = k then (kv.1, v) else kv).1 = kv.1
      split <;> rfl
    · obtain ⟨kv, h1, rfl⟩ := List.mem_map.mp h
      exact List.any_eq_true.mpr ⟨kv, h1, by simp⟩
  · rw [if_neg h, if_neg]
    · simp
    · intro q
      obtain ⟨kv, h1, h2⟩ := List.any_eq_true.mp q
      exact h (List.mem_map.mpr ⟨kv, h1, of_decide_eq_true h2⟩)
theorem TabAt.put {L : List Nat} {kvs : List (List Key × V)} {O : Nd → Nd → Option Int} (T : TabAt L kvs O) {x y : Nd} (hx : x ∈ ndOf L) (hy : y ∈ ndOf L) (n : Int) : TabAt L (putK kvs (kN x y) (.int n)) (putO O x y n) := by
  refine ⟨?_, ?_, fun a b => ?_⟩
  · rw [putK_keys]
    split
    · exact T.nd
    · rename_i h
      rw [List.nodup_append]
      refine ⟨T.nd, by simp, fun a ha b hb => ?_⟩
      rw [List.mem_singleton.mp hb]
      exact fun e => h (by rw [← e]; exact ha)
  · intro k hk
    rw [putK_keys] at hk
    split at hk
    · exact T.ks k hk
    · rcases List.mem_append.mp hk with hk | hk
      · exact T.ks k hk
      · exact ⟨x, hx, y, hy, List.mem_singleton.mp hk⟩
  · rw [valV_put]
    unfold putO
    by_cases e : kN a b = kN x y
    · rw [if_pos e, if_pos (kN_inj e)]; rfl
    · rw [if_neg e, if_neg fun q => e (by rw [q.1, q.2])]
      exact T.vl a b
theorem len_sub {α : Type} [DecidableEq α] : ∀ {l m : List α}, l.Nodup → (∀ a ∈ l, a ∈ m) → l.length ≤ m.length
  | [], _, _, _ => Nat.zero_le _
  | a :: l, m, nd, h => by
    rw [List.nodup_cons] at nd
    have ih := len_sub (l := l) (m := m.erase a) nd.2 fun b hb => by
      rw [List.mem_erase_of_ne (fun e => nd.1 (by rw [← e]; exact hb))]
      exact h b (List.mem_cons_of_mem _ hb)
    have hm := h a List.mem_cons_self
    rw [List.length_erase_of_mem hm] at ih
    have : 0 < m.length := List.length_pos_of_mem hm
    simp only [List.length_cons]
    omega
theorem TabAt.len {L : List Nat} {kvs : List (List Key × V)} {O : Nd → Nd → Option Int} (T : TabAt L kvs O) : kvs.length ≤ (L.length + 1) * (L.length + 1) := by
  have h := len_sub (m := (ndOf L).flatMap fun x => (ndOf L).map fun y => kN x y) T.nd fun k hk => by
    obtain ⟨x, hx, y, hy, rfl⟩ := T.ks k hk
    exact List.mem_flatMap.mpr ⟨x, hx, List.mem_map.mpr ⟨y, hy, rfl⟩⟩
  rw [List.length_map] at h
  have e : ∀ (l m : List Nd), (l.flatMap fun x => m.map fun y => kN x y).length = l.length * m.length := by
    intro l m
    induction l with
    | nil => simp
    | cons a l ih => rw [List.flatMap_cons, List.length_append, ih, List.length_map, List.length_cons, Nat.succ_mul]; omega
  rw [e] at h
  simpa [ndOf] using h
theorem rOf_perm {zs ys : List Str} {g o : Str → Int} {ps qs : List ((Str × Str) × Int)} (sn : (ps.map Prod.fst).Nodup) (pm : ys.Perm zs) (pq : qs.Perm ps) (x y : Nd) : rOf (codesOf ys) g o qs x y = rOf (codesOf zs) g o ps x y := by
  have mem : ∀ a, a ∈ codesOf ys ↔ a ∈ codesOf zs := fun a => (pm.map _).mem_iff
  cases x with
  | none =>
    cases y with
    | none => rfl
    | some b =>
      show (if b ∈ codesOf ys then _ else _) = (if b ∈ codesOf zs then _ else _)
      by_cases h : b ∈ codesOf zs
      · rw [if_pos h, if_pos ((mem b).mpr h)]
      · rw [if_neg h, if_neg fun q => h ((mem b).mp q)]
  | some a =>
    cases y with
    | none =>
      show (if a ∈ codesOf ys then _ else _) = (if a ∈ codesOf zs then _ else _)
      by_cases h : a ∈ codesOf zs
      · rw [if_pos h, if_pos ((mem a).mpr h)]
      · rw [if_neg h, if_neg fun q => h ((mem a).mp q)]
    | some b => exact findP_perm sn pq _ _
end MN
/-! Closed.__init__ -/
namespace MN
open PySem PySem.Spec PyProof.Rows L2
def codeOf (z : Str) : Nat := z.cps.toList.headD 0
theorem piListK {X : Cx} {K : PySem.W.Frag} (hK : X.K = K) {tg l : Expr} {tl : TE} (hl : PE X l tl) : PI X tg l (iList K tl) := hK ▸ pi_list hl
theorem peSlK {X : Cx} {K : PySem.W.Frag} (hK : X.K = K) {e : Expr} {ta : TE} {f : Str} {pos : Pos} (he : PE X e ta) (hb : attributeBase e f X.env (eval e X.env) = eval e X.env := by rfl) : PE X (.Attribute e f pos) (SlX.tSl K ta f) := hK ▸ SlX.pe_sl he hb
/-- the swap prices of all pairs of some signs -/
structure AllP (ys : List Str) (h : Str → Str → Int) (qs : List ((Str × Str) × Int)) : Prop where
  nd : (qs.map Prod.fst).Nodup
  iff : ∀ e, e ∈ qs ↔ e.1.1 ∈ ys ∧ e.1.2 ∈ ys ∧ e.1.1 ≠ e.1.2 ∧ e.2 = h e.1.1 e.1.2
theorem pairs_len {ys : List Str} {l : List (Str × Str)} (nd : l.Nodup) (h : ∀ e ∈ l, e.1 ∈ ys ∧ e.2 ∈ ys) : l.length ≤ ys.length * ys.length := by
  have h1 := len_sub (m := ys.flatMap fun x => ys.map fun y => (x, y)) nd fun e he => List.mem_flatMap.mpr ⟨e.1, (h e he).1, List.mem_map.mpr ⟨e.2, (h e he).2, rfl⟩⟩
  have e : ∀ (l m : List Str), (l.flatMap fun x => m.map fun y => (x, y)).length = l.length * m.length := by
    intro l m
    induction l with
    | nil => simp
    | cons a l ih => rw [List.flatMap_cons, List.length_append, ih, List.length_map, List.length_cons, Nat.succ_mul]; omega
  rw [e] at h1
  exact h1
theorem AllP.len {ys : List Str} {h : Str → Str → Int} {qs : List ((Str × Str) × Int)} (A : AllP ys h qs) : qs.length ≤ ys.length * ys.length := by
  have := pairs_len (ys := ys) A.nd fun e he => by
    obtain ⟨x, hx, rfl⟩ := List.mem_map.mp he
    exact ⟨((A.iff x).mp hx).1, ((A.iff x).mp hx).2.1⟩
  rwa [List.length_map] at this
theorem AllP.find {ys : List Str} {h : Str → Str → Int} {qs : List ((Str × Str) × Int)} (A : AllP ys h qs) {x y : Str} (hx : x ∈ ys) (hy : y ∈ ys) (n : x ≠ y) : findP qs x y = some (h x y) :=
  (findP_some A.nd).mpr ((A.iff _).mpr ⟨hx, hy, n, rfl⟩)
/-- the pairs put so far -/
def PreP (ys : List Str) (h : Str → Str → Int) (i j : Nat) (qs : List ((Str × Str) × Int)) : Prop := (qs.map Prod.fst).Nodup ∧ ∀ e, e ∈ qs ↔ ((e.1.1 ∈ ys.take i ∧ e.1.2 ∈ ys) ∨ (ys[i]? = some e.1.1 ∧ e.1.2 ∈ ys.take j)) ∧ e.1.1 ≠ e.1.2 ∧ e.2 = h e.1.1 e.1.2
theorem PreP.row {ys : List Str} {h : Str → Str → Int} {i : Nat} {qs : List ((Str × Str) × Int)} (P : PreP ys h i ys.length qs) (hi : i < ys.length) : PreP ys h (i + 1) 0 qs := by
  refine ⟨P.1, fun e => ?_⟩
  rw [P.2 e, List.take_length, List.take_add_one, List.getElem?_eq_getElem hi]
  simp only [Option.toList_some, List.mem_append, List.mem_singleton, Option.some.injEq, List.take_zero, List.not_mem_nil, and_false, or_false]
  constructor
  · rintro ⟨a | ⟨a, b⟩, c⟩
    · exact ⟨⟨.inl a.1, a.2⟩, c⟩
    · exact ⟨⟨.inr a.symm, b⟩, c⟩
  · rintro ⟨⟨a | a, b⟩, c⟩
    · exact ⟨.inl ⟨a, b⟩, c⟩
    · exact ⟨.inr ⟨a.symm, b⟩, c⟩
theorem PreP.skip {ys : List Str} {h : Str → Str → Int} {i j : Nat} {y : Str} {qs : List ((Str × Str) × Int)} (P : PreP ys h i j qs) (hi : ys[i]? = some y) (hj : ys[j]? = some y) : PreP ys h i (j + 1) qs := by
  refine ⟨P.1, fun e => ?_⟩
  rw [P.2 e, List.take_add_one, hj, hi]
  simp only [Option.toList_some, List.mem_append, List.mem_singleton, Option.some.injEq]
  constructor
  · rintro ⟨a | ⟨a, b⟩, c⟩
    · exact ⟨.inl a, c⟩
    · exact ⟨.inr ⟨a, .inl b⟩, c⟩
  · rintro ⟨a | ⟨a, b | b⟩, c⟩
    · exact ⟨.inl a, c⟩
    · exact ⟨.inr ⟨a, b⟩, c⟩
    · exact absurd (a.symm.trans b.symm) c.1
theorem PreP.new {ys : List Str} {h : Str → Str → Int} {i j : Nat} {x y : Str} {qs : List ((Str × Str) × Int)} (P : PreP ys h i j qs) (nd : ys.Nodup) (hi : ys[i]? = some x) (hj : ys[j]? = some y) (n : x ≠ y) : PreP ys h i (j + 1) (qs ++ [((x, y), h x y)]) ∧ (x, y) ∉ qs.map Prod.fst := by
  have nw : (x, y) ∉ qs.map Prod.fst := fun q => by
    obtain ⟨e, he, q⟩ := List.mem_map.mp q
    obtain ⟨a | a, _⟩ := (P.2 e).mp he
    · rw [q] at a; exact take_nodup nd hi a.1
    · rw [q] at a; exact take_nodup nd hj a.2
  refine ⟨⟨?_, fun e => ?_⟩, nw⟩
  · rw [List.map_append, List.nodup_append]
    refine ⟨P.1, by simp, fun a ha b hb => ?_⟩
    rw [show b = (x, y) by simpa using hb]
    exact fun z => nw (by rw [← z]; exact ha)
  · rw [List.mem_append, P.2 e, List.mem_singleton, List.take_add_one, hj, hi]
    simp only [Option.toList_some, List.mem_append, List.mem_singleton, Option.some.injEq]
    constructor
    · rintro (⟨a | ⟨a, b⟩, c⟩ | rfl)
      · exact ⟨.inl a, c⟩
      · exact ⟨.inr ⟨a, .inl b⟩, c⟩
      · exact ⟨.inr ⟨rfl, .inr rfl⟩, n, rfl⟩
    · rintro ⟨a | ⟨a, b | b⟩, c⟩
      · exact .inl ⟨.inl a, c⟩
      · exact .inl ⟨.inr ⟨a, b⟩, c⟩
      · refine .inr ?_
        obtain ⟨⟨e1, e2⟩, e3⟩ := e
        have a' : x = e1 := a
        have b' : e2 = y := b
        subst a'
        subst b'
        have c' : e3 = h x e2 := c.2
        rw [c']
theorem PreP.len {ys : List Str} {h : Str → Str → Int} {i j : Nat} {qs : List ((Str × Str) × Int)} (P : PreP ys h i j qs) : qs.length ≤ ys.length * ys.length := by
  have := pairs_len (ys := ys) P.1 fun e he => by
    obtain ⟨x, hx, rfl⟩ := List.mem_map.mp he
    obtain ⟨a | a, _⟩ := (P.2 x).mp hx
    · exact ⟨List.mem_of_mem_take a.1, a.2⟩
    · exact ⟨List.mem_of_getElem? a.1, List.mem_of_mem_take a.2⟩
  rwa [List.length_map] at this
theorem PreP.all {ys : List Str} {h : Str → Str → Int} {qs : List ((Str × Str) × Int)} (P : PreP ys h ys.length 0 qs) : AllP ys h qs := by
  refine ⟨P.1, fun e => ?_⟩
  rw [P.2 e, List.take_length]
  simp [and_assoc]
/-- all but T stays -/
def But (T : Addr) (H H' : Hp) : Prop := ∀ b o, b ≠ T → H b = some o → H' b = some o
theorem But.refl {T : Addr} {H : Hp} : But T H H := fun _ _ _ e => e
theorem But.same {T : Addr} {H H1 H2 : Hp} (h : But T H H1) (e : Same H1 H2) : But T H H2 := fun b o n q => e _ _ (h b o n q)
theorem But.put {T : Addr} {H H1 : Hp} {o : HO} (h : But T H H1) : But T H (upd H1 T o) := fun b o n q => by rw [upd_ne n]; exact h b o n q
theorem But.trans {T : Addr} {H H1 H2 : Hp} (h : But T H H1) (e : But T H1 H2) : But T H H2 := fun b o n q => e b o n (h b o n q)
theorem But.same0 {T : Addr} {H H1 : Hp} (h : But T H H1) (n : H T = none) : Same H H1 := fun b o q => h b o (fun z => by rw [z, n] at q; cases q) q
theorem But.seqL {K : PySem.W.Frag} {T : Addr} {H H' : Hp} {a : Addr} {xs : List V} (e : But T H H') (h : SqL K H a xs) (hne : a ≠ T) : SqL K H' a xs := by
  rcases h with (h | ⟨o, h⟩) | h
  · exact .inl (.inl (e _ _ hne h))
  · exact .inl (.inr ⟨o, e _ _ hne h⟩)
  · exact .inr h
theorem dtF_new {qs : List ((Str × Str) × Int)} {x y : Str} {n : Int} (h : (x, y) ∉ qs.map Prod.fst) : putK (dtF qs) [.inr x, .inr y] (.int n) = dtF (qs ++ [((x, y), n)]) := by
  rw [putK_fresh]
  · simp [dtF]
  · intro q
    unfold dtF at q
    rw [List.map_map] at q
    obtain ⟨a, ha, e⟩ := List.mem_map.mp q
    have e' : ([Sum.inr a.1.1, Sum.inr a.1.2] : List Key) = [.inr x, .inr y] := e
    injection e' with e1 e2
    injection e2 with e2 _
    exact h (List.mem_map.mpr ⟨a, ha, Prod.ext (Sum.inr.inj e1) (Sum.inr.inj e2)⟩)
section
variable {P : Program} {w : World} {K : PySem.W.Frag} {mg : Str → Option Value} {base : Heap}
/-- closed prices: their instance -/
def ClAt (C : Addr) (H : Hp) (x dx : Addr) (ys : List Str) (c : Nd → Nd → Int) : Prop := ∃ qs, AllP ys (fun a b => c (some (codeOf a)) (some (codeOf b))) qs ∧ PrAt C H x dx ys ys (fun z => c none (some (codeOf z))) (fun z => c (some (codeOf z)) none) qs
theorem ClAt.same {C : Addr} {H H' : Hp} {x dx : Addr} {ys : List Str} {c : Nd → Nd → Int} (h : ClAt C H x dx ys c) (e : Same H H') : ClAt C H' x dx ys c := by
  obtain ⟨qs, h1, h2⟩ := h
  exact ⟨qs, h1, h2.same e⟩
theorem nS_code {z : Str} (h : ∃ c ∈ ("abcde" : Str).cps.toList, z = ⟨#[c]⟩) : nS (some (codeOf z)) = z := by
  obtain ⟨c, _, rfl⟩ := h
  rfl
theorem code_mem {zs : List Str} (h : ∀ z ∈ zs, ∃ c ∈ ("abcde" : Str).cps.toList, z = ⟨#[c]⟩) {z : Str} (hz : z ∈ zs) : codeOf z ∈ codesOf zs := List.mem_map.mpr ⟨z, hz, rfl⟩
def spCInit (K : PySem.W.Frag) (C : Addr) : Sp := fun vs H Q _ => ∃ x dx T a ys kvs O, vs = [.ref x, .ref T, .ref a] ∧ H x = some (.ins C dx []) ∧ H dx = some (.own x) ∧ dx ≠ x ∧ H T = some (.dT kvs) ∧ H a = some (.lst (ys.map V.str)) ∧ ys.length ≤ 5 ∧ ys.Nodup ∧ (∀ z ∈ ys, ∃ c ∈ ("abcde" : Str).cps.toList, z = ⟨#[c]⟩) ∧
  TabAt (codesOf ys) kvs O ∧ (∀ x y, InL (codesOf ys) x → InL (codesOf ys) y → x ≠ y → ∃ t, O x y = some t) ∧ ∀ H', Kp x dx H H' → ClAt C H' x dx ys (cOf O) → Q .non H'
end
end MN
/-! closed_of -/
namespace MN
open PySem PySem.Spec PyProof.Rows L2
theorem TabAt.congr {L : List Nat} {kvs : List (List Key × V)} {O O' : Nd → Nd → Option Int} (T : TabAt L kvs O) (h : ∀ x y, O' x y = O x y) : TabAt L kvs O' := ⟨T.nd, T.ks, fun x y => by rw [h]; exact T.vl x y⟩
theorem valV_mem' {α : Type} [DecidableEq α] {kvs : List (α × V)} {k : α} {v : V} (h : valV kvs k = some v) : k ∈ kvs.map (·.1) := by
  unfold valV at h
  obtain ⟨q, hq, _⟩ := Option.map_eq_some_iff.mp h
  have h2 : q.1 = k := by simpa using List.find?_some hq
  exact List.mem_map.mpr ⟨q, List.mem_of_find?_eq_some hq, h2⟩
/-- the swap prices alone -/
theorem tab_swaps {ys ys2 : List Str} {g o : Str → Int} {qs : List ((Str × Str) × Int)} (N : PrN ys ys2 g o qs) : TabAt (codesOf ys) (dtF qs) (rOf [] g o qs) := by
  have form : ∀ e ∈ qs, ∃ a b, a ∈ codesOf ys ∧ b ∈ codesOf ys ∧ e.1 = (sgS a, sgS b) := fun e he => by
    obtain ⟨h1, h2, _⟩ := N.sp e he
    refine ⟨codeOf e.1.1, codeOf e.1.2, code_mem N.sg h1, code_mem N.sg h2, Prod.ext ?_ ?_⟩
    · exact (nS_code (N.sg _ h1)).symm
    · exact (nS_code (N.sg _ h2)).symm
  refine ⟨dtF_nodup N.sn, fun k hk => ?_, fun x y => ?_⟩
  · unfold dtF at hk
    rw [List.map_map] at hk
    obtain ⟨e, he, rfl⟩ := List.mem_map.mp hk
    obtain ⟨a, b, ha, hb, q⟩ := form e he
    refine ⟨some a, mem_nd.mpr (InL.of ha), some b, mem_nd.mpr (InL.of hb), ?_⟩
    show [Sum.inr e.1.1, Sum.inr e.1.2] = _
    rw [q]; rfl
  · have nope : ∀ x y : Nd, x = none ∨ y = none → valV (dtF qs) (kN x y) = none := fun x y h => dtF_no fun q => by
      obtain ⟨e, he, q⟩ := List.mem_map.mp q
      obtain ⟨a, b, _, _, q2⟩ := form e he
      rw [q] at q2
      have h1 := nS_inj (x := x) (y := some a) (Prod.mk.inj q2).1
      have h2 := nS_inj (x := y) (y := some b) (Prod.mk.inj q2).2
      rcases h with h | h
      · rw [h] at h1; cases h1
      · rw [h] at h2; cases h2
    cases x with
    | none => rw [nope _ _ (.inl rfl)]; cases y <;> rfl
    | some a =>
      cases y with
      | none => rw [nope _ _ (.inr rfl)]; rfl
      | some b =>
        show _ = (findP qs (sgS a) (sgS b)).map V.int
        cases e : findP qs (sgS a) (sgS b) with
        | some p => exact dtF_val N.sn ((findP_some N.sn).mp e)
        | none =>
          refine dtF_no fun q => ?_
          obtain ⟨z, hz, q⟩ := List.mem_map.mp q
          have := (findP_some (p := z.2) N.sn).mpr (show ((sgS a, sgS b), z.2) ∈ qs from by
            have : z = ((sgS a, sgS b), z.2) := Prod.ext q rfl
            rw [← this]; exact hz)
          rw [e] at this
          cases this
theorem rOf_step {L : List Nat} {g o : Str → Int} {qs : List ((Str × Str) × Int)} {i c : Nat} (h : L[i]? = some c) : ∀ x y, rOf (L.take (i + 1)) g o qs x y = putO (putO (rOf (L.take i) g o qs) none (some c) (g (sgS c))) (some c) none (o (sgS c)) x y := by
  have mem : ∀ a, a ∈ L.take (i + 1) ↔ a ∈ L.take i ∨ a = c := fun a => by rw [List.take_add_one, h]; simp
  intro x y
  cases x with
  | none =>
    cases y with
    | none => simp [rOf, putO]
    | some b =>
      simp only [rOf, putO, mem]
      by_cases e : b = c
      · subst e; simp
      · simp [e]
  | some a =>
    cases y with
    | none =>
      simp only [rOf, putO, mem]
      by_cases e : a = c
      · subst e; simp
      · simp [e]
    | some b => simp [rOf, putO]
/-- amid a phase -/
def midO (m : Nd) (O : Nd → Nd → Option Int) (nd : List Nd) (i j : Nat) : Nd → Nd → Option Int := fun x y => if x ∈ nd.take i ∨ (nd[i]? = some x ∧ y ∈ nd.take j) then ph m O x y else O x y
section
variable {m : Nd} {O : Nd → Nd → Option Int} {nd : List Nd}
theorem ph_col (dg : O m m = none) (x : Nd) : ph m O x m = O x m := by
  unfold ph
  split
  · rfl
  · rw [dg]; cases O x m <;> rfl
theorem ph_row (dg : O m m = none) (y : Nd) : ph m O m y = O m y := by
  unfold ph
  split
  · rfl
  · rw [dg]
theorem mid_col (dg : O m m = none) {i j : Nat} (x : Nd) : midO m O nd i j x m = O x m := by
  unfold midO
  split
  · exact ph_col dg x
  · rfl
theorem mid_row (dg : O m m = none) {i j : Nat} (y : Nd) : midO m O nd i j m y = O m y := by
  unfold midO
  split
  · exact ph_row dg y
  · rfl
theorem mid_new {i j : Nat} {x y : Nd} (n : nd.Nodup) (hi : nd[i]? = some x) (hj : nd[j]? = some y) : midO m O nd i j x y = O x y := by
  unfold midO
  rw [if_neg]
  rintro (h | ⟨_, h⟩)
  · exact take_nodup n hi h
  · exact take_nodup n hj h
theorem mid_step {i j : Nat} {x y : Nd} (n : nd.Nodup) (hi : nd[i]? = some x) (hj : nd[j]? = some y) (a b : Nd) : midO m O nd i (j + 1) a b = if a = x ∧ b = y then ph m O x y else midO m O nd i j a b := by
  unfold midO
  rw [List.take_add_one, hj, hi]
  simp only [Option.toList_some, List.mem_append, List.mem_singleton, Option.some.injEq]
  by_cases e : a = x ∧ b = y
  · obtain ⟨rfl, rfl⟩ := e
    rw [if_pos (.inr ⟨rfl, .inr rfl⟩), if_pos ⟨rfl, rfl⟩]
  · rw [if_neg e]
    by_cases c : a ∈ nd.take i ∨ x = a ∧ b ∈ nd.take j
    · rw [if_pos c, if_pos]
      exact c.imp id fun q => ⟨q.1, .inl q.2⟩
    · rw [if_neg c, if_neg]
      rintro (q | ⟨q1, q2 | q2⟩)
      · exact c (.inl q)
      · exact c (.inr ⟨q1, q2⟩)
      · exact e ⟨q1.symm, q2⟩
theorem mid_rowEnd {i : Nat} (hi : i < nd.length) (a b : Nd) (ph_in : ∀ a b, b ∉ nd → ph m O a b = O a b) : midO m O nd (i + 1) 0 a b = midO m O nd i nd.length a b := by
  unfold midO
  rw [List.take_add_one, List.getElem?_eq_getElem hi, List.take_length]
  simp only [Option.toList_some, List.mem_append, List.mem_singleton, Option.some.injEq, List.take_zero, List.not_mem_nil, and_false, or_false]
  by_cases h1 : a ∈ nd.take i
  · rw [if_pos (.inl h1), if_pos (.inl h1)]
  · by_cases h2 : a = nd[i]
    · rw [if_pos (.inr h2)]
      by_cases h3 : b ∈ nd
      · rw [if_pos (.inr ⟨h2.symm, h3⟩)]
      · rw [if_neg]
        · exact ph_in a b h3
        · rintro (q | q)
          · exact h1 q
          · exact h3 q.2
    · rw [if_neg, if_neg]
      · rintro (q | q)
        · exact h1 q
        · exact h2 q.1.symm
      · rintro (q | q)
        · exact h1 q
        · exact h2 q
end
/-- what lies outside of the nodes is no price -/
structure OutO (L : List Nat) (O : Nd → Nd → Option Int) : Prop where
  ins : ∀ x y t, O x y = some t → x ∈ ndOf L ∧ y ∈ ndOf L
theorem OutO.ph {L : List Nat} {O : Nd → Nd → Option Int} {m : Nd} (h : OutO L O) : OutO L (ph m O) := ⟨fun x y t e => by
  rcases ph_or e with e | ⟨a, b, _, e1, e2, _⟩
  · exact h.ins x y t e
  · exact ⟨(h.ins _ _ _ e1).1, (h.ins _ _ _ e2).2⟩⟩
theorem OutO.no {L : List Nat} {O : Nd → Nd → Option Int} (h : OutO L O) {x y : Nd} (n : ¬ (x ∈ ndOf L ∧ y ∈ ndOf L)) : O x y = none := by
  cases e : O x y with
  | none => rfl
  | some t => exact absurd (h.ins x y t e) n
theorem mid_all {L : List Nat} {O : Nd → Nd → Option Int} {m : Nd} (h : OutO L O) (a b : Nd) : midO m O (ndOf L) (ndOf L).length 0 a b = ph m O a b := by
  unfold midO
  rw [List.take_length]
  by_cases h1 : a ∈ ndOf L
  · rw [if_pos (.inl h1)]
  · rw [if_neg]
    · rw [h.no fun q => h1 q.1, h.ph.no fun q => h1 q.1]
    · rintro (q | q)
      · exact h1 q
      · simp at q
section
variable {P : Program} {w : World} {K : PySem.W.Frag} {mg : Str → Option Value} {base : Heap} {Cp Cc : Addr}
def spClosedOf (Cp Cc : Addr) : Sp := fun vs H Q _ => ∃ x dx ys ys2 g o qs, vs = [.ref x] ∧ PrAt Cp H x dx ys ys2 g o qs ∧ PrN ys ys2 g o qs ∧
  ∀ q dq c H', Same H H' → H q = none → H dq = none → Clo (codesOf ys) (rOf (codesOf ys) g o qs) c → ClAt Cc H' q dq ys c → Q (.ref q) H'
end
end MN
/-! enumerate(text) -/
namespace MN
open PySem PySem.Spec PyProof.Rows L2
/-- the signs with their places, each in a new pair -/
def Ites (z : Str) : It :=
  ⟨fun i _ => i < z.cps.size, fun i H v H' => ∃ T c, z.cps[i]? = some c ∧ v = .ref T ∧ H T = none ∧ H' = upd H T (.tup [.int (i : Nat), .str ⟨#[c]⟩]), fun i _ => i = z.cps.size⟩
theorem draws_str {prog : Program} {w : World} {A : Around} (hh : A.handled = none) (it : Addr) (x : Str) (t : Tok) (ty : String) (hty : ty = "str_ascii_iterator" ∨ ty = "str_iterator") :
    Draws prog w A it [it] x.cps.size (fun i v => ∃ c u, x.cps[i]? = some c ∧ v = .str ⟨#[c]⟩ u) (fun i h => h.IsStrIter it ty x t i) := by
  rcases hty with rfl | rfl
  · exact Draws.strAscii hh it x t
  · exact Draws.strWide hh it x t
theorem turn_enumS {P : Program} {w : World} {K : PySem.W.Frag} {elts : List Expr} {kk : Nat} {tpos : Pos} (z : Str) (t : Tok) (ty : String) (hty : ty = "str_ascii_iterator" ∨ ty = "str_iterator") (e it : Addr) :
    Turn P w K (.Tuple elts kk tpos) (Ites z) [e, it] e (fun i h => (∃ old, IsEnum h e it ((i : Nat) : Int) old) ∧ h.IsStrIter it ty z t i ∧ e ≠ it) where
  mem := by simp
  obj := fun i h st b hb => by
    obtain ⟨⟨old, he⟩, ⟨o, ho, hc, hd⟩, _⟩ := st
    have e' : b = e ∨ b = it := by simpa using hb
    rcases e' with z | z
    · rw [z]; exact ⟨_, he, fun v q => nomatch q⟩
    · rw [z]; exact ⟨o, ho, fun v q => by rw [hd] at q; cases q⟩
  keep := fun i h h' st k => by
    obtain ⟨⟨old, he⟩, ⟨o, ho, r⟩, hne⟩ := st
    exact ⟨⟨old, k e (by simp) _ he⟩, ⟨o, k it (by simp) o ho, r⟩, hne⟩
  item := by
    intro X hP hw hK hc i pins s σ H E I hf st hg
    subst hP hw hK
    obtain ⟨⟨old, he⟩, hit, hne⟩ := st
    have hel : e < s.heap.objs.size := Heap.lt_size he
    have hil : it < s.heap.objs.size := by obtain ⟨_, q, _⟩ := hit; exact Heap.lt_size q
    refine wpAny_pyNext_enum_itemD (draws_str (A := X.A.in1) (I.ok.hd hc) it z t ty hty) he hit hg hne (by simpa using hne) fun x h' tk hx ho hit' hT hsz hk => ?_
    obtain ⟨c, u, hcx, rfl⟩ := hx
    refine ⟨_, rfl, wpAny_letOwnedTupleGo_enum (s := { s with heap := h', toks := tk + 1 }) ho fun h'' he' sb => ?_⟩
    have hT2 : h''.get? s.heap.objs.size = some { cls := .type "tuple", data := .seq #[.int i tk, .str ⟨#[c]⟩ u] } := (sb.2 _ (Nat.ne_of_gt hel)).trans hT
    have new : ObjOk X.prog X.w (upd H s.heap.objs.size (.tup [.int (i : Nat), .str ⟨#[c]⟩])) h'' s.heap.objs.size (.tup [.int (i : Nat), .str ⟨#[c]⟩]) :=
      ⟨by show 2 ≤ sizeLine; decide, [.int i tk, .str ⟨#[c]⟩ u], .cons ⟨_, rfl⟩ (.cons ⟨_, rfl⟩ .nil), ⟨_, hT2, rfl, _, rfl⟩⟩
    have I1 : L2.Inv X pins σ (upd H s.heap.objs.size (.tup [.int (i : Nat), .str ⟨#[c]⟩])) { s with heap := h'', toks := tk + 1 } :=
      I.turnedNew (ch := [e, it]) (fun b ob hb q => (sb.2 b (fun z => hb (by simp [z]))).trans (hk b ob (fun z => hb (by simp [z])) (fun z => hb (by simp [z])) q)) hf (Nat.le_refl _) new
    refine ⟨.ref s.heap.objs.size, _, I1, rfl, ⟨_, c, hcx, rfl, I.hok.fresh (Nat.le_refl _), rfl⟩, ⟨⟨.str ⟨#[c]⟩ u, ?_⟩, ?_, hne⟩, fun b hb => ?_⟩
    · have e1 : ((i + 1 : Nat) : Int) = (i : Int) + 1 := by omega
      rw [e1]; exact he'
    · obtain ⟨o, ho2, r⟩ := hit'
      exact ⟨o, (sb.2 it (Ne.symm hne)).trans ho2, r⟩
    · have hb' : b < s.heap.objs.size := by
        have e' : b = e ∨ b = it := by simpa using hb
        rcases e' with z | z
        · rw [z]; exact hel
        · rw [z]; exact hil
      rw [upd_ne (Nat.ne_of_lt hb')]
      exact (hf b hb).1
  done := by
    intro X hP hw hK hc i pins s σ H E I hf st hg
    subst hP hw hK
    obtain ⟨⟨old, he⟩, hit, hne⟩ := st
    obtain ⟨f0, f1, f2, f3, f4, f5⟩ := hf it (by simp)
    have hg' : i = z.cps.size := hg
    rw [hg'] at hit he
    exact wpAny_pyNext_enum_endD (draws_str (A := X.A.in1) (I.ok.hd hc) it z t ty hty) he hit fun h' eb => ⟨rfl, I.turned (t' := s.toks) (fun b o hb q => eb b o hb q) f0 f1 f3 f4 f5⟩
  self := fun A i s Q E st h => let ⟨⟨_, he⟩, _⟩ := st; wpAny_pyIter_enum he h
def iEnumS (ta : TA) : TI := fun σ H R => ta σ H fun vs H1 => ∃ z, vs = [.str z] ∧ R (Ites z) H1
theorem pi_enumS {X : Cx} {e : Expr} {ta : TA} {p pos tpos : Pos} {elts : List Expr} {kk : Nat} (hg : Gl X "enumerate") (hm : X.mg "enumerate" = none) (ha : PA X [e] ta) (hs : starEach [e] X.env = [(false, eval e X.env)] := by rfl) :
    PI X (.Tuple elts kk tpos) (.Call (.Name "enumerate" p) [e] [] pos) (iEnumS ta) := by
  refine ⟨fun pins s σ H R I h => ?_⟩
  refine Call_ (ld_blt I hg hm boot_enumerate (PyProof.Rows.callWith_type1 (thn (ha.run pos pins s σ H _ I h) fun us s1 ⟨vs, H1, I1, r1, q1⟩ => ?_) hs rfl))
  obtain ⟨z, ex, q⟩ := q1
  subst ex
  cases r1 with
  | cons r rr =>
    cases rr
    obtain ⟨t, rfl⟩ := (show ∃ t, _ = Value.str z t from r)
    refine call_enumerate_str fun h' he hit hsz hk => wpAny_pyIter_enum he ?_
    have I2 : L2.Inv X pins σ H1 { s1 with heap := h' } := I1.kept (t' := s1.toks) hk
    have hty : strIterType z = "str_ascii_iterator" ∨ strIterType z = "str_iterator" := by
      unfold strIterType
      cases z.cps.all (· < 128)
      · exact .inr rfl
      · exact .inl rfl
    refine ⟨s1.heap.objs.size + 1, [s1.heap.objs.size + 1, s1.heap.objs.size], _, _, H1, rfl, I2, turn_enumS z t (strIterType z) hty (s1.heap.objs.size + 1) s1.heap.objs.size, ⟨⟨.none, he⟩, hit, Nat.succ_ne_self _⟩, fun b hb => ?_, q⟩
    have e' : b = s1.heap.objs.size + 1 ∨ b = s1.heap.objs.size := by simpa using hb
    have hle : s1.heap.objs.size ≤ b := by
      rcases e' with z | z
      · rw [z]; exact Nat.le_add_right _ _
      · rw [z]; exact Nat.le_refl _
    exact I1.fpOk hle (I1.hok.fresh hle)
theorem walk_enumS {z : Str} : Walk (Ites z) z.cps.size (fun _ => True) (fun i H v H' => ∃ T c, z.cps[i]? = some c ∧ v = .ref T ∧ H T = none ∧ H' = upd H T (.tup [.int (i : Nat), .str ⟨#[c]⟩])) :=
  ⟨fun _ _ hi _ => hi, fun _ _ => rfl, fun _ _ _ _ _ _ y => y⟩
/-- min of three numbers -/
theorem call_min3 {X : Cx} (hc : X.calm = true) : CallR X (.builtin "min") (fun xs H Q => ∃ a b c : Int, xs = [.int a, .int b, .int c] ∧ Q (.int (min (min a b) c)) H) := by
  intro pins s σ H xs us Q I r h
  obtain ⟨a, b, c, rfl, q⟩ := h
  refine call_min3Nu hc pins s σ H _ us Q I r ⟨.int a, .int b, .int c, .int (min (min a b) c), rfl, ?_, q⟩
  have two : ∀ a b : Int, nuMin2 (.int a) (.int b) = some (.int (min a b)) := fun a b => by
    show some (if decide (b < a) = true then V.int b else V.int a) = _
    by_cases h : b < a
    · rw [if_pos (decide_eq_true h), Int.min_eq_right (by omega)]
    · rw [if_neg (by simp [h]), Int.min_eq_left (by omega)]
  unfold nuMin3
  rw [two]
  exact two _ _
end MN
/-! require_word, require_prices, Prices.__contains__, require_two -/
namespace MN
open PySem PySem.Spec PyProof.Rows L2
/-- a word by its codes -/
def wS (u : List Nat) : Str := ⟨u.toArray⟩
theorem wS_len (u : List Nat) : (wS u).length = u.length := by simp [wS, Str.length]
theorem wS_cps (u : List Nat) : (wS u).cps.toList = u := rfl
theorem wS_inj {u v : List Nat} (h : wS u = wS v) : u = v := by
  have := congrArg (fun z : Str => z.cps.toList) h
  exact this
theorem wS_app (u v : List Nat) : wS u ++ wS v = wS (u ++ v) := by
  show (⟨u.toArray ++ v.toArray⟩ : Str) = ⟨(u ++ v).toArray⟩
  simp
theorem codes_sgn {zs : List Str} (h : ∀ z ∈ zs, ∃ c ∈ ("abcde" : Str).cps.toList, z = ⟨#[c]⟩) {c : Nat} (hc : c ∈ codesOf zs) : c ∈ ("abcde" : Str).cps.toList := by
  obtain ⟨d, hd, e⟩ := h _ ((mem_codes h).mp hc)
  have := nS_inj (x := some c) (y := some d) e
  cases this
  exact hd
section
variable {P : Program} {w : World} {K : PySem.W.Frag} {mg : Str → Option Value} {base : Heap} {Cp Cc : Addr}
def spReqWord : Sp := fun vs H Q _ => ∃ u : List Nat, vs = [.str (wS u)] ∧ (∀ c ∈ u, c ∈ ("abcde" : Str).cps.toList) ∧ u.length ≤ 1000 ∧ ∀ H', Same H H' → Q .non H'
theorem sc_require_word : FnScope ["value"] ["value"] (defScope (top 14)) := ⟨rfl, rfl, rfl, by decide +kernel, rfl, by decide +kernel, by decide +kernel⟩
theorem c_require_word (A : At K mg "require_word" (top 14)) (B : Blt mg) (G : GlC mg "MAX_WORD" (.int 1000)) (c_is_word : Cal P w K mg base 1 "is_word" (spIsWord K)) : Cal P w K mg base 2 "require_word" spReqWord := by
  refine cal_of A sc_require_word (fun _ _ _ _ _ _ us hl => match us, hl with | [_], _ => rfl) (fun vs H Q E h => ?_) (fun _ cdv A outer s H vs Q E hr h => ?_)
  · obtain ⟨_, rfl, _⟩ := h; rfl
  · obtain ⟨u, rfl, hu, hl, hQ⟩ := h
    have big : 100000 < sizeLine := by decide
    refine ⟨_, (pss_one (ps_if (PW.pt (pw_or (pt_not (pt_val (pe_c c_is_word hr (by decide) (by rfl) (pa_cons (pv 0) pa_nil)))) (pw_or1 (pt_cmpR op_gt (pe_callB call_len_str (by rfl) B.len (by decide +kernel) (pa_cons (pv 0) pa_nil)) (pe_gl (by rfl) G) (nomark _)))))
      (pss_one ps_never)
      pss_nil)), ?_⟩
    refine ⟨_, rfl, _, rfl, .str (by rw [wS_len]; omega), fun H1 e1 => ⟨_, rfl, ?_⟩⟩
    rw [show isWord (.str (wS u)) = true from by
      show isWordS (wS u) = true
      unfold isWordS
      rw [wS_cps, List.all_eq_true]
      intro c hc
      simp only [sgn, decide_eq_true_eq]
      exact hu c hc]
    refine iteF ⟨_, rfl, _, rfl, by rw [wS_len]; omega, _, _, rfl, rfl, _, rfl, ?_⟩
    rw [wS_len, decide_eq_false (by omega)]
    exact iteF (hQ _ e1)
/-! ### require_prices -/
def spReqPrices (Cp : Addr) : Sp := fun vs H Q _ => ∃ x dx ys ys2 g o qs, vs = [.ref x] ∧ PrAt Cp H x dx ys ys2 g o qs ∧ Q .non H
theorem sc_require_prices : FnScope ["value"] ["value"] (defScope (top 22)) := ⟨rfl, rfl, rfl, by decide +kernel, rfl, by decide +kernel, by decide +kernel⟩
/-! ### Prices.__contains__ -/
def spHas (Cp : Addr) : Sp := fun vs H Q _ => ∃ x dx ys ys2 g o qs z, vs = [.ref x, .str z] ∧ PrAt Cp H x dx ys ys2 g o qs ∧ PrN ys ys2 g o qs ∧ z ∈ ys ∧ Q (.bl true) H
theorem sc_has : FnScope ["self", "value"] ["self", "value"] (defScope (inClass (top 21) 14)) := ⟨rfl, rfl, rfl, by decide +kernel, rfl, by decide +kernel, by decide +kernel⟩
/-! ### require_two -/
def spReqTwo (Cp : Addr) : Sp := fun vs H Q _ => ∃ u v x dx ys ys2 g o qs, vs = [.str (wS u), .str (wS v), .ref x] ∧ PrAt Cp H x dx ys ys2 g o qs ∧ PrN ys ys2 g o qs ∧ (∀ c ∈ u, c ∈ codesOf ys) ∧ (∀ c ∈ v, c ∈ codesOf ys) ∧ u.length ≤ 200 ∧ v.length ≤ 200 ∧ ∀ H', Same H H' → Q .non H'
end
end MN
/-! costs_with, cost_table, distance -/
namespace MN
open PySem PySem.Spec PyProof.Rows L2
/-- the costs of a word (turned) to all beginnings of another one -/
def rowV (c : Nd → Nd → Int) (u v : List Nat) : Nat → List V := fun n => (List.range n).map fun j => V.int (Dc c u (v.take j).reverse)
theorem rowV_get {c : Nd → Nd → Int} {u v : List Nat} {n j : Nat} (h : j < n) : (rowV c u v n)[j]? = some (.int (Dc c u (v.take j).reverse)) := by
  unfold rowV
  rw [List.getElem?_map, List.getElem?_range h]; rfl
theorem rowV_len {c : Nd → Nd → Int} {u v : List Nat} {n : Nat} : (rowV c u v n).length = n := by simp [rowV]
theorem rowV_succ {c : Nd → Nd → Int} {u v : List Nat} {n : Nat} : rowV c u v (n + 1) = rowV c u v n ++ [.int (Dc c u (v.take n).reverse)] := by
  unfold rowV
  rw [List.range_succ, List.map_append]; rfl
theorem take_rev {v : List Nat} {j l : Nat} (h : v[j]? = some l) : (v.take (j + 1)).reverse = l :: (v.take j).reverse := by
  rw [List.take_add_one, h]; simp
theorem codeOf_sg (c : Nat) : codeOf (sgS c) = c := rfl
section
variable {P : Program} {w : World} {K : PySem.W.Frag} {mg : Str → Option Value} {base : Heap} {Cp Cc : Addr}
def spCostsWith (Cc : Addr) : Sp := fun vs H Q _ => ∃ q dq a s u v ys c, vs = [.ref q, .ref a, .str (sgS s), .str (wS v)] ∧ ClAt Cc H q dq ys c ∧ ys.Nodup ∧ (∀ x, c x x = 0) ∧ H a = some (.lst (rowV c u v (v.length + 1))) ∧ sgS s ∈ ys ∧ (∀ l ∈ v, sgS l ∈ ys) ∧ v.length ≤ 200 ∧
  ∀ r H', H r = none → Same H H' → H' r = some (.lst (rowV c (s :: u) v (v.length + 1))) → Q (.ref r) H'
/-! ### cost_table -/
def spCostTable (Cc : Addr) : Sp := fun vs H Q _ => ∃ q dq u v ys c, vs = [.ref q, .str (wS u), .str (wS v)] ∧ ClAt Cc H q dq ys c ∧ ys.Nodup ∧ (∀ x, c x x = 0) ∧ (∀ l ∈ u, sgS l ∈ ys) ∧ (∀ l ∈ v, sgS l ∈ ys) ∧ u.length ≤ 200 ∧ v.length ≤ 200 ∧
  ∀ t rs r H', Same H H' → H' t = some (.lst (rs ++ [.ref r])) → H' r = some (.lst (rowV c u.reverse v (v.length + 1))) → Q (.ref t) H'
/-! ### distance -/
def spDistance (Cp : Addr) : Sp := fun vs H Q _ => ∃ u v x dx ys ys2 g o qs, vs = [.str (wS u), .str (wS v), .ref x] ∧ PrAt Cp H x dx ys ys2 g o qs ∧ PrN ys ys2 g o qs ∧ (∀ c ∈ u, c ∈ codesOf ys) ∧ (∀ c ∈ v, c ∈ codesOf ys) ∧ u.length ≤ 200 ∧ v.length ≤ 200 ∧
  ∀ c H', Clo (codesOf ys) (rOf (codesOf ys) g o qs) c → Same H H' → Q (.int (Dc c u.reverse v.reverse)) H'
end
end MN
/-! Prices called by keywords; closed, put, out, swap of prices -/
namespace MN
open PySem PySem.Spec PyProof.Rows L2
section
variable {X : Cx} {CX : CXT} {k : Nat} {f C : Addr} {fd : FuncData} {ps ks : List Str} {sp : Sp} {E : XK} {x : Str} {p pos : Pos} {kws : List Keyword} {tk : TA} {g : List Value → List Value → List Value} {gV : List V → List V → List V}
/-- a class of the module, called by keywords alone -/
theorem pe_makeKG (M : Mk X.K C f) (F : FnOk X.prog X.w X.K X.mg X.base CX k f fd ps sp) (hr : Room (k + 1) X.A) (hg : Gl X x) (hm : X.mg x = some (.ref C)) (hb : KBn X.K fd ps 1 ks g gV) (hx : Passes CX X E) (hkw : PK X kws tk)
    (hall : (backToKw pos (keywordEach kws X.env)).all (·.1.isSome) = true := by rfl) (hks : (backToKw pos (keywordEach kws X.env)).filterMap (·.1) = ks := by rfl) (hdb : (x == ("__debug__" : Str)) = false := by decide)
    (hpl : ((backTo pos (starEach [] X.env)).any (·.1) || (backToKw pos (keywordEach kws X.env)).any (·.1.isNone)) = false := by rfl) :
    PE X (.Call (.Name x p) [] kws pos) (tMakeK C 0 ks.length sp gV E tNil tk) := by
  refine ⟨fun pins s σ H Q I h => ?_⟩
  refine wpAny_Call_Name_kw (ld_glob I hg hm ?_ hdb)
  refine PySem.W.callWith_KW0 (h₀ := X.base) I.ok.mod.kin M.kp hall ?_ hpl
  refine thn (hkw.run pos pins s σ _ _ I h) fun ws s2 ⟨zs, H2, I2, rz, l1, l2, q2⟩ => ⟨I2.kIn, ?_⟩
  rw [hks]
  exact run_makeK (us := []) (vs := []) M F hr hb hx I2 .nil rz rfl l2 q2
end
section
variable {P : Program} {w : World} {K : PySem.W.Frag} {mg : Str → Option Value} {base : Heap} {Cp Cc : Addr}
theorem kb_pinit {f : Addr} {fd : FuncData} (F : FunAt K "__init__" "Prices.__init__" (inClass (top 21) 1) [] f fd) : KBn K fd ["self", "put", "out", "swap"] 1 ["put", "out", "swap"] (fun us ws => us ++ ws) (fun us ws => us ++ ws) := by
  obtain ⟨oc, od, dV, kV, doc, pm, an, cdv, ct, osl, rfl, lk, hcd, hD, hK⟩ := F.ex
  rcases hD with ⟨_, rfl⟩ | ⟨e, _⟩
  · refine ⟨fun s us ws X l1 l2 => ?_, fun r1 r2 => r1.append r2⟩
    match us, ws, l1, l2 with
    | [_], [_, _, _], _, _ => exact .of_eq rfl
  · exact absurd rfl e
abbrev gC (c : Nd → Nd → Int) : Str → Int := fun z => c none (some (codeOf z))
abbrev oC (c : Nd → Nd → Int) : Str → Int := fun z => c (some (codeOf z)) none
abbrev sC (c : Nd → Nd → Int) : Str → Str → Int := fun a b => c (some (codeOf a)) (some (codeOf b))
theorem AllP.perm {ys : List Str} {h : Str → Str → Int} {qs qs' : List ((Str × Str) × Int)} (A : AllP ys h qs) (p : qs'.Perm qs) : AllP ys h qs' := ⟨(p.map _).nodup_iff.mpr A.nd, fun e => by rw [p.mem_iff]; exact A.iff e⟩
theorem AllP.permY {ys ys' : List Str} {h : Str → Str → Int} {qs : List ((Str × Str) × Int)} (A : AllP ys h qs) (p : ys'.Perm ys) : AllP ys' h qs := ⟨A.nd, fun e => by rw [p.mem_iff, p.mem_iff]; exact A.iff e⟩
/-- closed prices are good prices -/
theorem clo_good {ys ys2 : List Str} {g o : Str → Int} {qs qs' : List ((Str × Str) × Int)} {c : Nd → Nd → Int} (N : PrN ys ys2 g o qs) (C : Clo (codesOf ys) (rOf (codesOf ys) g o qs) c) (A : AllP ys (sC c) qs') : PrN ys ys (gC c) (oC c) qs' := by
  have inl : ∀ {z : Str}, z ∈ ys → InL (codesOf ys) (some (codeOf z)) := fun hz => InL.of (code_mem N.sg hz)
  have sgc : ∀ {z : Str}, z ∈ ys → sgS (codeOf z) = z := fun {z} hz => nS_code (N.sg z hz)
  have pg : ∀ z ∈ ys, 1 ≤ gC c z ∧ gC c z ≤ 9 := fun z hz => by
    refine ⟨C.pos _ _ InL.no (inl hz) (fun e => nomatch e), ?_⟩
    have h1 := C.le none (some (codeOf z)) (g z) InL.no (inl hz) (by show (if _ then _ else _) = _; rw [if_pos (code_mem N.sg hz), sgc hz])
    have h2 := (N.pg z hz).2
    show c none (some (codeOf z)) ≤ 9
    omega
  have po : ∀ z ∈ ys, 1 ≤ oC c z ∧ oC c z ≤ 9 := fun z hz => by
    refine ⟨C.pos _ _ (inl hz) InL.no (fun e => nomatch e), ?_⟩
    have h1 := C.le (some (codeOf z)) none (o z) (inl hz) InL.no (by show (if _ then _ else _) = _; rw [if_pos (code_mem N.sg hz), sgc hz])
    have h2 := (N.po z hz).2
    show c (some (codeOf z)) none ≤ 9
    omega
  refine ⟨N.sg, N.nd, N.pos, N.le, List.Perm.refl _, pg, po, A.nd, fun e he => ?_, ?_⟩
  · obtain ⟨h1, h2, h3, h4⟩ := (A.iff e).mp he
    refine ⟨h1, h2, h3, ?_, ?_⟩
    · rw [h4]
      exact C.pos _ _ (inl h1) (inl h2) fun q => h3 (by rw [← sgc h1, ← sgc h2, Option.some.inj q])
    · rw [h4]
      have := C.tri (some (codeOf e.1.1)) none (some (codeOf e.1.2)) (inl h1) InL.no (inl h2)
      have a1 := (po _ h1).2
      have a2 := (pg _ h2).2
      show c (some (codeOf e.1.1)) (some (codeOf e.1.2)) ≤ 18
      have a1' : c (some (codeOf e.1.1)) none ≤ 9 := a1
      have a2' : c none (some (codeOf e.1.2)) ≤ 9 := a2
      omega
  · have h1 := A.len
    have h2 : ys.length * ys.length ≤ 5 * 5 := Nat.mul_le_mul N.le N.le
    omega
/-- the prices of closed prices, by nodes -/
theorem rOf_clo {ys ys' : List Str} {qs' : List ((Str × Str) × Int)} {c : Nd → Nd → Int} (sg : ∀ z ∈ ys, ∃ c ∈ ("abcde" : Str).cps.toList, z = ⟨#[c]⟩) (pm : ys'.Perm ys) (A : AllP ys (sC c) qs') : ∀ x y, InL (codesOf ys) x → InL (codesOf ys) y → rOf (codesOf ys') (gC c) (oC c) qs' x y = if x = y then none else some (c x y) := by
  have mem : ∀ {a}, a ∈ codesOf ys → a ∈ codesOf ys' := fun h => (pm.map _).mem_iff.mpr h
  intro x y hx hy
  cases x with
  | none =>
    cases y with
    | none => simp [rOf]
    | some b =>
      show (if b ∈ codesOf ys' then some (c none (some (codeOf (sgS b)))) else none) = _
      rw [if_pos (mem (hy b rfl)), if_neg (fun e => nomatch e), codeOf_sg]
  | some a =>
    cases y with
    | none =>
      show (if a ∈ codesOf ys' then some (c (some (codeOf (sgS a))) none) else none) = _
      rw [if_pos (mem (hx a rfl)), if_neg (fun e => nomatch e), codeOf_sg]
    | some b =>
      show findP qs' (sgS a) (sgS b) = _
      by_cases e : a = b
      · subst e
        rw [if_pos rfl]
        cases q : findP qs' (sgS a) (sgS a) with
        | none => rfl
        | some p => exact absurd rfl ((A.iff _).mp ((findP_some A.nd).mp q)).2.2.1
      · rw [if_neg fun q => e (Option.some.inj q), A.find ((mem_codes sg).mp (hx a rfl)) ((mem_codes sg).mp (hy b rfl)) fun q => e (Option.some.inj (nS_inj (x := some a) (y := some b) q))]
        rfl
/-- closed prices, closed again -/
theorem clo_again {ys ys2 ys' : List Str} {g o : Str → Int} {qs qs' : List ((Str × Str) × Int)} {c c' : Nd → Nd → Int} (N : PrN ys ys2 g o qs) (C : Clo (codesOf ys) (rOf (codesOf ys) g o qs) c) (pm : ys'.Perm ys) (A : AllP ys (sC c) qs') (C' : Clo (codesOf ys') (rOf (codesOf ys') (gC c) (oC c) qs') c') : ∀ x y, InL (codesOf ys) x → InL (codesOf ys) y → c' x y = c x y :=
  C.same ((C'.perm fun a => ((pm.map _).mem_iff).symm).congr fun x y hx hy => (rOf_clo N.sg pm A x y hx hy).symm)
def spPClosed (Cp : Addr) : Sp := fun vs H Q _ => ∃ x dx ys ys2 g o qs, vs = [.ref x] ∧ PrAt Cp H x dx ys ys2 g o qs ∧ PrN ys ys2 g o qs ∧
  ∀ y dy ys' ys2' qs' c H', Same H H' → Clo (codesOf ys) (rOf (codesOf ys) g o qs) c → PrAt Cp H' y dy ys' ys2' (gC c) (oC c) qs' → PrN ys' ys2' (gC c) (oC c) qs' → ys'.Perm ys → AllP ys (sC c) qs' → Q (.ref y) H'
abbrev N_pclosed : List Str := ["self"]
theorem sc_pclosed : FnScope N_pclosed ["self"] (defScope (inClass (top 21) 8)) := ⟨rfl, rfl, rfl, by decide +kernel, rfl, by decide +kernel, by decide +kernel⟩
end
end MN
/-! put, out, swap of prices -/
namespace MN
open PySem PySem.Spec PyProof.Rows L2
section
variable {P : Program} {w : World} {K : PySem.W.Frag} {mg : Str → Option Value} {base : Heap} {Cp Cc : Addr}
/-! ### put, out, swap -/
def spGet (Cp : Addr) (R : List Str → List Str → (Str → Int) → (Str → Int) → List ((Str × Str) × Int) → HO) : Sp := fun vs H Q _ => ∃ x dx ys ys2 g o qs, vs = [.ref x] ∧ PrAt Cp H x dx ys ys2 g o qs ∧ PrN ys ys2 g o qs ∧ ∀ d H', Same H H' → H' d = some (R ys ys2 g o qs) → Q (.ref d) H'
abbrev spPut (Cp : Addr) : Sp := spGet Cp fun ys _ g _ _ => .dK (dkF ys g)
abbrev spOut (Cp : Addr) : Sp := spGet Cp fun _ ys2 _ o _ => .dK (dkF ys2 o)
abbrev spSwap (Cp : Addr) : Sp := spGet Cp fun _ _ _ _ qs => .dT (dtF qs)
theorem sc_pput : FnScope ["self"] ["self"] (defScope (inClass (top 21) 4)) := ⟨rfl, rfl, rfl, by decide +kernel, rfl, by decide +kernel, by decide +kernel⟩
theorem sc_pout : FnScope ["self"] ["self"] (defScope (inClass (top 21) 5)) := ⟨rfl, rfl, rfl, by decide +kernel, rfl, by decide +kernel, by decide +kernel⟩
abbrev N_pswap : List Str := ["self", "pair"]
theorem sc_pswap : FnScope N_pswap ["self"] (defScope (inClass (top 21) 6)) := ⟨rfl, rfl, rfl, by decide +kernel, rfl, by decide +kernel, by decide +kernel⟩
end
end MN
/-! the classes Prices and Closed in the head's run -/
namespace MN
open PySem PySem.Spec PyProof.Rows L2
theorem slB_at {K : PySem.W.Frag} {C : Addr} {f : Str} {i : Nat} (h : slB K C f = true) (hi : PySem.W.slotIn K (He.ma K C f) C = some i) : ∃ p, SlX.Slot1 K C f p i := by
  obtain ⟨h1, h⟩ := He.ba h
  obtain ⟨h2, h⟩ := He.ba h
  obtain ⟨h3, h⟩ := He.ba h
  obtain ⟨h4, h5⟩ := He.ba h
  rw [hi] at h5
  exact ⟨_, He.eqO_ok h1, He.eqO_ok h2, of_decide_eq_true h3, of_decide_eq_true h4, hi, of_decide_eq_true h5⟩
def slotCB (K : PySem.W.Frag) (C : Addr) : Bool := scB K C && ((slB K C "own_out" && decide (PySem.W.slotIn K (He.ma K C "own_out") C = some 0)) && ((slB K C "own_put" && decide (PySem.W.slotIn K (He.ma K C "own_put") C = some 1)) && (slB K C "own_swap" && decide (PySem.W.slotIn K (He.ma K C "own_swap") C = some 2))))
theorem slotCB_ok {K : PySem.W.Frag} {C : Addr} (h : slotCB K C = true) : SlotC K C := by
  obtain ⟨h0, h⟩ := He.ba h
  obtain ⟨h1, h⟩ := He.ba h
  obtain ⟨h2, h3⟩ := He.ba h
  obtain ⟨a1, b1⟩ := He.ba h1
  obtain ⟨a2, b2⟩ := He.ba h2
  obtain ⟨a3, b3⟩ := He.ba h3
  exact ⟨scB_ok h0, slB_at a1 (of_decide_eq_true b1), slB_at a2 (of_decide_eq_true b2), slB_at a3 (of_decide_eq_true b3)⟩
def propB (K : PySem.W.Frag) (C : Addr) (f : Str) : Bool := He.eqO (PySem.W.findIn K (.ref C) f) (some (some (.ref (He.ma K C f)))) && (He.eqO (PySem.W.specialIn K (.ref (He.ma K C f)) "__get__") (some (some (.builtin "property.__get__"))) && (decide (PySem.W.takesIn K (.ref (He.ma K C f)) = some true) && (match PySem.W.recIn K (He.ma K C f) "property" with
  | some (.ref _ :: _) => true
  | _ => false)))
theorem propB_ok {K : PySem.W.Frag} {C : Addr} {f : Str} (h : propB K C f = true) : PropOf K C f (He.ma K C f) (He5.wf K C "property" f) := by
  obtain ⟨h1, h⟩ := He.ba h
  obtain ⟨h2, h⟩ := He.ba h
  obtain ⟨h3, h4⟩ := He.ba h
  refine ⟨He.eqO_ok h1, He.eqO_ok h2, of_decide_eq_true h3, ?_⟩
  unfold He5.wf
  split at h4
  · rename_i g r e
    exact ⟨r, by rw [e]⟩
  · cases h4
abbrev gP (K : PySem.W.Frag) : Addr := He.ga K "Prices"
def prB (K : PySem.W.Frag) : Bool := slotCB K (gP K) && (slotCB K (He.ga K "Closed") && ((He.Fa.mkr "Prices").ok K && ((He.Fa.mkr "Closed").ok K && (siB K (gP K) && (decide (PySem.W.kitOne K (.ref (gP K)) (.ref (gP K)) = some true) && (He.eqO (PySem.W.findIn K (.ref (gP K)) "__contains__") (some (some (.ref (He.ma K (gP K) "__contains__")))) && (PySem.W.isFn K (.ref (He.ma K (gP K) "__contains__")) && ((He.Fa.meth "Prices" "closed").ok K && (propB K (gP K) "put" && (propB K (gP K) "out" && propB K (gP K) "swap"))))))))))
end MN
/-! the draws of the laws k05 .. k09: rates, priced -/
namespace MN
open PySem PySem.Spec PyProof.Rows L2
theorem getElem?_mem_take {α : Type} {l : List α} {k i : Nat} {a : α} (h : l[k]? = some a) (hk : k < i) : a ∈ l.take i := by
  refine List.mem_iff_getElem?.mpr ⟨k, ?_⟩
  rw [List.getElem?_take, if_pos hk]; exact h
section
variable {K : PySem.W.Frag} {l p D : Addr} {H1 : Hp} {σ : L2.St} {vs : List Nat} {te : TE} {j : Nat} {Qd : Hp → Prop} {W : Int} {zs : List Str}
/-- [(z, a drawn number) for z in signs] -/
theorem lc_draws (hl : SqL K H1 l (strsV zs)) (nlp : l ≠ p) (nd : zs.Nodup) (l5 : zs.length ≤ 1000) (hp : Pot H1 p) (hD : H1 D = none) (hw : ∀ z ∈ zs, wipe ((wipe σ vs).set j (some (.str z))) vs = wipe σ vs)
    (he : ∀ z ∈ zs, ∀ H2, Ex p H1 H2 → ∀ Q : VK, (∀ n H3 T, 1 ≤ n → n ≤ W → Ex p H2 H3 → H3 T = none → Q (.ref T) (upd H3 T (.tup [.str z, .int n]))) → te ((wipe σ vs).set j (some (.str z))) H2 Q)
    (hd : ∀ H' ts g, Ex p H1 H' → H' D = some (.lst (ts.map V.ref)) → (∀ z ∈ zs, 1 ≤ g z ∧ g z ≤ W) → Paired (fun t (kv : Key × V) => SqT K H' t [kV kv.1, kv.2]) ts (dkF zs g) → Qd H') : LcGoal (Itl K l) (gName j) tYes te vs σ H1 D Qd := by
  have nDp : D ≠ p := by
    obtain ⟨_, _, _, e⟩ := hp
    exact (ne_of_none e hD).symm
  refine lc_it walk_list (fun i H' => Ex p H1 H' ∧ ∃ (ts : List Addr) (g : Str → Int), ts.length = i ∧ H' D = some (.lst (ts.map V.ref)) ∧ (∀ z ∈ zs.take i, 1 ≤ g z ∧ g z ≤ W) ∧ ∀ (k : Nat) (t : Addr), ts[k]? = some t → t ≠ p ∧ t ≠ D ∧ ∃ z, zs[k]? = some z ∧ H' t = some (.tup [.str z, .int (g z)])) ⟨(Ex.refl hp).new hD, [], fun _ => 1, rfl, upd_same, by simp, by simp⟩ (fun i H' _ e => e.1.seqL hl nlp) (fun i x Ha Hb hi e y => ?_) (fun H' e => ?_)
  · obtain ⟨rfl, hx⟩ := y
    obtain ⟨ex, ts, g, lt, hDa, gb, at_⟩ := e
    have hx' : (zs.map V.str)[i]? = some x := hx
    rw [List.getElem?_map] at hx'
    obtain ⟨z, hz, rfl⟩ := Option.map_eq_some_iff.mp hx'
    have mz := List.mem_of_getElem? hz
    have nz := take_nodup nd hz
    refine ⟨hw z mz, yes_q (iteT (he z mz _ ex _ fun n H3 T n1 n2 ex3 hT => ⟨ts.map V.ref, ?_, ?_, ?_, ts ++ [T], fun y => if y = z then n else g y, ?_, ?_, fun y hy => ?_, fun k t ht => ?_⟩))⟩
    · have := ex3.keep _ _ nDp hDa
      rw [upd_ne (ne_of_none this hT)]; exact this
    · have : 100000 < sizeLine := by decide
      have : i < (strsV zs).length := hi
      simp [strsV] at this
      rw [List.length_map]
      omega
    · exact ((ex.trans ex3).new hT).put hD nDp
    · rw [List.length_append, lt]; rfl
    · rw [upd_same, List.map_append]; rfl
    · show 1 ≤ (if y = z then n else g y) ∧ (if y = z then n else g y) ≤ W
      rw [List.take_add_one, hz] at hy
      by_cases e : y = z
      · rw [if_pos e]; exact ⟨n1, n2⟩
      · rw [if_neg e]
        refine gb y ?_
        simpa [e] using hy
    · have hDc := ex3.keep _ _ nDp hDa
      by_cases hk : k < ts.length
      · rw [List.getElem?_append_left hk] at ht
        obtain ⟨a1, a2, y, hy, hty⟩ := at_ k t ht
        have q3 := ex3.keep _ _ a1 hty
        refine ⟨a1, a2, y, hy, ?_⟩
        rw [upd_ne a2, upd_ne (ne_of_none q3 hT), q3]
        show _ = some (HO.tup [V.str y, V.int (if y = z then n else g y)])
        rw [if_neg]
        intro e
        exact nz (by rw [← e]; exact getElem?_mem_take hy (by omega))
      · have hk2 : k = ts.length := by
          have := (List.getElem?_eq_some_iff.mp ht).1
          rw [List.length_append, List.length_singleton] at this
          omega
        subst hk2
        rw [List.getElem?_append_right (Nat.le_refl _), Nat.sub_self] at ht
        cases (show some T = some t from ht)
        obtain ⟨_, _, _, e3⟩ := ex3.pot
        refine ⟨(ne_of_none e3 hT).symm, (ne_of_none hDc hT).symm, z, by rw [lt]; exact hz, ?_⟩
        rw [upd_ne (ne_of_none hDc hT).symm, upd_same]
        show _ = some (HO.tup [V.str z, V.int (if z = z then n else g z)])
        rw [if_pos rfl]
  · obtain ⟨ex, ts, g, lt, hDa, gb, at_⟩ := e
    have lz : (strsV zs).length = zs.length := by simp [strsV]
    rw [lz] at lt gb
    rw [List.take_length] at gb
    refine hd H' ts g ex hDa gb (paired_of (by simp [dkF, lt]) fun k t kv ht hkv => ?_)
    obtain ⟨_, _, z, hz, htz⟩ := at_ k t ht
    unfold dkF at hkv
    rw [List.getElem?_map, hz] at hkv
    cases hkv
    exact .inl (.inl htz)
end
/-- swap prices drawn so far -/
structure SubP (zs : List Str) (i j : Nat) (ps : List ((Str × Str) × Int)) : Prop where
  nd : (ps.map Prod.fst).Nodup
  ks : ∀ e ∈ ps, (e.1.1 ∈ zs.take i ∨ (zs[i]? = some e.1.1 ∧ e.1.2 ∈ zs.take j)) ∧ e.1.1 ∈ zs ∧ e.1.2 ∈ zs ∧ e.1.1 ≠ e.1.2 ∧ 1 ≤ e.2 ∧ e.2 ≤ 18
theorem SubP.next {zs : List Str} {i j : Nat} {ps : List ((Str × Str) × Int)} (S : SubP zs i j ps) : SubP zs i (j + 1) ps :=
  ⟨S.nd, fun e he => ⟨(S.ks e he).1.imp id fun q => ⟨q.1, by rw [List.take_add_one]; exact List.mem_append_left _ q.2⟩, (S.ks e he).2⟩⟩
theorem SubP.row {zs : List Str} {i j : Nat} {ps : List ((Str × Str) × Int)} (S : SubP zs i j ps) : SubP zs (i + 1) 0 ps :=
  ⟨S.nd, fun e he => ⟨.inl (by
    rw [List.take_add_one]
    rcases (S.ks e he).1 with q | q
    · exact List.mem_append_left _ q
    · rw [q.1]; exact List.mem_append_right _ (by simp)), (S.ks e he).2⟩⟩
theorem SubP.new {zs : List Str} {i j : Nat} {ps : List ((Str × Str) × Int)} {x y : Str} {n : Int} (S : SubP zs i j ps) (nd : zs.Nodup) (hi : zs[i]? = some x) (hj : zs[j]? = some y) (ne : x ≠ y) (n1 : 1 ≤ n) (n2 : n ≤ 18) : SubP zs i (j + 1) (ps ++ [((x, y), n)]) ∧ (x, y) ∉ ps.map Prod.fst := by
  have nw : (x, y) ∉ ps.map Prod.fst := fun q => by
    obtain ⟨e, he, q⟩ := List.mem_map.mp q
    rcases (S.ks e he).1 with a | a
    · rw [q] at a; exact take_nodup nd hi a
    · rw [q] at a; exact take_nodup nd hj a.2
  refine ⟨⟨?_, fun e he => ?_⟩, nw⟩
  · rw [List.map_append, List.nodup_append]
    refine ⟨S.nd, by simp, fun a ha b hb => ?_⟩
    rw [show b = (x, y) by simpa using hb]
    exact fun z => nw (by rw [← z]; exact ha)
  · rcases List.mem_append.mp he with he | he
    · exact S.next.ks e he
    · rw [List.mem_singleton.mp he]
      exact ⟨.inr ⟨hi, by rw [List.take_add_one, hj]; simp⟩, List.mem_of_getElem? hi, List.mem_of_getElem? hj, ne, n1, n2⟩
theorem SubP.len {zs : List Str} {i j : Nat} {ps : List ((Str × Str) × Int)} (S : SubP zs i j ps) : ps.length ≤ zs.length * zs.length := by
  have := pairs_len (ys := zs) S.nd fun e he => by
    obtain ⟨x, hx, rfl⟩ := List.mem_map.mp he
    exact ⟨(S.ks x hx).2.1, (S.ks x hx).2.2.1⟩
  rwa [List.length_map] at this
end MN
/-! the draws of the laws k05 .. k09: rates -/
namespace MN
open PySem PySem.Spec PyProof.Rows L2
section
variable {P : Program} {w : World} {K : PySem.W.Frag} {mg : Str → Option Value} {base : Heap} {Cp Cc : Addr}
def spRates (K : PySem.W.Frag) : Sp := fun vs H Q _ => ∃ p l m zs, vs = [.ref p, .ref l, .int m] ∧ Pot H p ∧ l ≠ p ∧ SqL K H l (strsV zs) ∧ SgnOk zs ∧ 1 ≤ m ∧ m ≤ 9 ∧
  ∀ t A B S g o ps H', PrN zs zs g o ps → A ≠ B → H t = none → H A = none → H B = none → H S = none → Ex p H H' → H' t = some (.lst [.ref A, .ref B, .ref S]) → H' A = some (.dK (dkF zs g)) → H' B = some (.dK (dkF zs o)) → H' S = some (.dT (dtF ps)) → Q (.ref t) H'
abbrev N_law_rates : List Str := ["_law_cup_here", "_law_letters", "_law_most", "_law_wide", "_law_gains", "_law_one", "_law_losses", "_law_turns", "_law_other"]
theorem sc_law_rates : FnScope N_law_rates ["_law_cup_here", "_law_letters", "_law_most"] (defScope (top 40)) := ⟨rfl, rfl, rfl, by decide +kernel, rfl, by decide +kernel, by decide +kernel⟩
theorem c_law_rates (A : At K mg "_law_rates" (top 40)) (B : Blt mg) (c_law_toss : Cal P w K mg base 1 "_law_toss" spDip) (c_law_choice : Cal P w K mg base 2 "_law_choice" (spPick K)) : Cal P w K mg base 3 "_law_rates" (spRates K) := by
  refine cal_of A sc_law_rates (fun _ _ _ _ _ _ us hl => match us, hl with | [_, _, _], _ => rfl) (fun vs H Q E h => ?_) (fun _ cdv A outer s H vs Q E hr h => ?_)
  · obtain ⟨_, _, _, _, rfl, _⟩ := h; rfl
  · obtain ⟨p, l, m, zs, rfl, hp, nlp, hl, ok, m1, m9, hQ⟩ := h
    refine ⟨_, (pss_cons (ps_set (i := 3) sc_law_rates.nd rfl (Or.inr rfl) (pe_c c_law_choice hr (by decide) (by rfl) (pa_cons (pv 0) (pa_cons (pe_lst (pa_cons (pv 2) (pa_cons (pv 2) (pa_cons (pv 2) (pa_cons pe_int pa_nil))))) pa_nil))))
      (pss_cons (ps_set (i := 4) sc_law_rates.nd rfl (Or.inl rfl) (pe_callTy (call_dictP rfl) (by rfl) B.dict (by decide +kernel) (pa_cons (pe_lc (own := [("_law_one", 5)]) (g := gName 5) (tt := tYes) (by rfl) sc_law_rates.nd (pi_list (pv 1)) (blkOk_by (own := [("_law_one", 5)]) (N := N_law_rates) (sc := defScope (top 40)) (by decide +kernel)) (fun _ _ _ _ _ => (pg_name (i := 5) sc_law_rates.nd rfl (Or.inl rfl))) (fun _ _ _ _ _ => pts_nil) (fun _ _ _ _ _ => (pe_tup (pa_cons (pv 5) (pa_cons (pe_op op_add pe_int (pe_c c_law_toss hr (by decide) (by rfl) (pa_cons (pv 0) (pa_cons (pv 3) pa_nil)))) pa_nil))))) pa_nil)))
      (pss_cons (ps_par (i := 6) (j := 7) (by rfl) sc_law_rates.nd rfl rfl (by decide) rfl rfl (pa_cons (pe_callTy (call_dictP rfl) (by rfl) B.dict (by decide +kernel) (pa_cons (pe_lc (own := [("_law_one", 5)]) (g := gName 5) (tt := tYes) (by rfl) sc_law_rates.nd (pi_list (pv 1)) (blkOk_by (own := [("_law_one", 5)]) (N := N_law_rates) (sc := defScope (top 40)) (by decide +kernel)) (fun _ _ _ _ _ => (pg_name (i := 5) sc_law_rates.nd rfl (Or.inl rfl))) (fun _ _ _ _ _ => pts_nil) (fun _ _ _ _ _ => (pe_tup (pa_cons (pv 5) (pa_cons (pe_op op_add pe_int (pe_c c_law_toss hr (by decide) (by rfl) (pa_cons (pv 0) (pa_cons (pv 3) pa_nil)))) pa_nil))))) pa_nil)) (pa_cons pe_dnewT pa_nil)) (by rfl))
      (pss_cons (ps_for PassesOwn.never rfl (pi_list (pv 1)) (pg_name (i := 5) sc_law_rates.nd rfl (Or.inl rfl))
        (pss_one (ps_for PassesOwn.never rfl (pi_list (pv 1)) (pg_name (i := 8) sc_law_rates.nd rfl (Or.inl rfl))
          (pss_one (ps_if (PW.pt (pw_and (pt_cmpR op_ne (pv 5) (pv 8) (nomark _)) (pw_and1 (pt_cmpR op_gt (pe_c c_law_toss hr (by decide) (by rfl) (pa_cons (pv 0) (pa_cons pe_int pa_nil))) pe_int (nomark _)))))
            (pss_one (ps_dput (hu_of hr) (pv 7) (pe_tup (pa_cons (pv 5) (pa_cons (pv 8) pa_nil))) (pe_op op_add pe_int (pe_c c_law_toss hr (by decide) (by rfl) (pa_cons (pv 0) (pa_cons (pe_c c_law_choice hr (by decide) (by rfl) (pa_cons (pv 0) (pa_cons (pe_lst (pa_cons (pv 2) (pa_cons (pv 3) (pa_cons (pe_op op_mul pe_int (pv 3)) pa_nil)))) pa_nil))) pa_nil)))) (by rfl)))
            pss_nil)))))
      (pss_one (ps_ret (pe_lst (pa_cons (pv 4) (pa_cons (pv 6) (pa_cons (pv 7) pa_nil)))))))))), ?_⟩
    have two : 2 ≤ sizeLine := by decide
    have three : 3 ≤ sizeLine := by decide
    have big : 100000 < sizeLine := by decide
    have nd := ok.nodup
    have l5 := ok.le
    -- wide
    refine ⟨_, rfl, _, rfl, _, rfl, _, rfl, (by show 4 ≤ sizeLine; decide), fun q0 hq0 => ?_⟩
    have nq0 : q0 ≠ p := by obtain ⟨_, _, _, e⟩ := hp; exact (ne_of_none e hq0).symm
    have ex0 : Ex p H (upd H q0 (.lst [.int m, .int m, .int m, .int 9])) := (Ex.refl hp).new hq0
    refine ⟨p, q0, _, rfl, ex0.pot, nq0, SqL.of upd_same, (by show 0 < 4; decide), (by show 4 < 100000; decide), fun v a' b' c' hv => ?_⟩
    obtain ⟨W, rfl, W1, W9⟩ : ∃ W : Int, v = .int W ∧ 1 ≤ W ∧ W ≤ 9 := by
      have : v = .int m ∨ v = .int 9 := by simpa using hv
      rcases this with rfl | rfl
      · exact ⟨m, rfl, m1, m9⟩
      · exact ⟨9, rfl, by decide, by decide⟩
    have ex1 : Ex p H (upd (upd H q0 (.lst [.int m, .int m, .int m, .int 9])) p (potO a' b' c')) := ex0.trans Ex.turn
    generalize upd (upd H q0 (.lst [.int m, .int m, .int m, .int 9])) p (potO a' b' c') = H1 at ex1 ⊢
    -- gains
    have tossing : ∀ {H2 : Hp} {z : Str} {Q : VK}, Pot H2 p → (∀ n H3 T, 1 ≤ n → n ≤ W → Ex p H2 H3 → H3 T = none → Q (.ref T) (upd H3 T (.tup [.str z, .int n]))) → ∃ a b c, H2 p = some (potO a b c) ∧ ∀ r a' b' c', 0 ≤ r → r < W → ∀ T, upd H2 p (potO a' b' c') T = none → Q (.ref T) (upd (upd H2 p (potO a' b' c')) T (.tup [.str z, .int (1 + r)])) := fun {H2 z Q} hp2 hq => by
      obtain ⟨a, b, c, e⟩ := hp2
      exact ⟨a, b, c, e, fun r a' b' c' r0 r1 T hT => hq (1 + r) _ T (by omega) (by omega) Ex.turn hT⟩
    refine ⟨_, rfl, l, rfl, ⟨_, ex1.seqL hl nlp⟩, fun D hD => ?_⟩
    refine lc_draws (W := W) (ex1.seqL hl nlp) nlp nd (by omega) ex1.pot hD (fun _ _ => rfl) (fun z hz H2 ex2 Q q => ?_) (fun H2 ts g ex2 hD2 gb pr => ?_)
    · obtain ⟨a, b, c, e, go⟩ := tossing ex2.pot q
      exact ⟨_, rfl, _, rfl, _, rfl, p, W, a, b, c, rfl, e, by omega, by omega, fun r a' b' c' r0 r1 => ⟨_, _, rfl, rfl, two, fun T hT => go r a' b' c' r0 r1 T hT⟩⟩
    refine ⟨D, ts, _, rfl, SqL.of hD2, pr, fun GA hGA => ?_⟩
    rw [show mergeK [] (dkF zs g) = dkF zs g from mergeK_nodup (more := dkF zs g) [] (dkF_nodup nd g)]
    have ex3 : Ex p H (upd H2 GA (.dK (dkF zs g))) := (ex1.trans ex2).new hGA
    have hG3 : upd H2 GA (.dK (dkF zs g)) GA = some (.dK (dkF zs g)) := upd_same
    have fGA : H GA = none := (ex1.trans ex2).free hp hGA
    generalize upd H2 GA (.dK (dkF zs g)) = H3 at ex3 hG3 ⊢
    clear ex2 hD2 pr hD
    -- losses
    refine ⟨_, rfl, l, rfl, ⟨_, ex3.seqL hl nlp⟩, fun D hD => ?_⟩
    refine lc_draws (W := W) (ex3.seqL hl nlp) nlp nd (by omega) ex3.pot hD (fun _ _ => rfl) (fun z hz H2 ex2 Q q => ?_) (fun H4 ts o ex4 hD2 ob pr => ?_)
    · obtain ⟨a, b, c, e, go⟩ := tossing ex2.pot q
      exact ⟨_, rfl, _, rfl, _, rfl, p, W, a, b, c, rfl, e, by omega, by omega, fun r a' b' c' r0 r1 => ⟨_, _, rfl, rfl, two, fun T hT => go r a' b' c' r0 r1 T hT⟩⟩
    refine ⟨D, ts, _, rfl, SqL.of hD2, pr, fun GB hGB => ?_⟩
    rw [show mergeK [] (dkF zs o) = dkF zs o from mergeK_nodup (more := dkF zs o) [] (dkF_nodup nd o)]
    have nGp : GA ≠ p := by obtain ⟨_, _, _, e⟩ := hp; exact (ne_of_none e fGA).symm
    have hG4 := ex4.keep _ _ nGp hG3
    have nAB : GA ≠ GB := ne_of_none hG4 hGB
    have ex5 : Ex p H (upd H4 GB (.dK (dkF zs o))) := (ex3.trans ex4).new hGB
    have hG5 : upd H4 GB (.dK (dkF zs o)) GA = some (.dK (dkF zs g)) := by rw [upd_ne nAB]; exact hG4
    have hB5 : upd H4 GB (.dK (dkF zs o)) GB = some (.dK (dkF zs o)) := upd_same
    have fGB : H GB = none := (ex3.trans ex4).free hp hGB
    have nBp : GB ≠ p := by obtain ⟨_, _, _, e⟩ := hp; exact (ne_of_none e fGB).symm
    generalize upd H4 GB (.dK (dkF zs o)) = H5 at ex5 hG5 hB5 ⊢
    clear ex4 hD2 pr hD hG4
    -- turns
    refine fun S hS => ⟨_, _, rfl, ?_⟩
    have fS : H S = none := ex5.free hp hS
    have nSp : S ≠ p := by obtain ⟨_, _, _, e⟩ := hp; exact (ne_of_none e fS).symm
    have ex6 : Ex p H (upd H5 S (.dT [])) := ex5.new hS
    have f6 := same_new (o := .dT []) hS
    have hS6 : upd H5 S (.dT []) S = some (.dT (dtF [])) := upd_same
    have hG6 := f6 _ _ hG5
    have hB6 := f6 _ _ hB5
    have nGS : GA ≠ S := ne_of_none hG5 hS
    have nBS : GB ≠ S := ne_of_none hB5 hS
    generalize upd H5 S (.dT []) = H6 at ex6 hS6 hG6 hB6 ⊢
    clear f6
    have lz : (strsV zs).length = zs.length := by simp [strsV]
    have keepS : ∀ {H' : Hp} {ps : List ((Str × Str) × Int)} {i j : Nat}, SubP zs i j ps → (dtF ps).length < sizeLine := fun S => by
      have := S.len
      have : zs.length * zs.length ≤ 5 * 5 := Nat.mul_le_mul l5 l5
      simp [dtF]
      omega
    refine ⟨_, rfl, l, rfl, ⟨_, ex6.seqL hl nlp⟩, for_it walk_list (fun i σ H' => (∃ o5 o8, σ = [some (.ref p), some (.ref l), some (.int m), some (.int W), some (.ref GA), o5, some (.ref GB), some (.ref S), o8]) ∧ Ex p H H' ∧ H' GA = some (.dK (dkF zs g)) ∧ H' GB = some (.dK (dkF zs o)) ∧ ∃ ps, H' S = some (.dT (dtF ps)) ∧ SubP zs i 0 ps) ⟨⟨_, _, rfl⟩, ex6, hG6, hB6, [], hS6, by simp, by simp⟩ (fun i σ H' _ e => e.2.1.seqL hl nlp) (fun i y σ Ha Hb hi e hy => ?_) (fun σ H7 e => ?_)⟩
    · obtain ⟨rfl, hy⟩ := hy
      obtain ⟨⟨o5, o8, rfl⟩, exa, hGa, hBa, ps, hSa, SP⟩ := e
      have hy' : (zs.map V.str)[i]? = some y := hy
      rw [List.getElem?_map] at hy'
      obtain ⟨x, hx, rfl⟩ := Option.map_eq_some_iff.mp hy'
      refine ⟨_, rfl, l, rfl, ⟨_, exa.seqL hl nlp⟩, for_it walk_list (fun j σ H' => (∃ o8, σ = [some (.ref p), some (.ref l), some (.int m), some (.int W), some (.ref GA), some (.str x), some (.ref GB), some (.ref S), o8]) ∧ Ex p H H' ∧ H' GA = some (.dK (dkF zs g)) ∧ H' GB = some (.dK (dkF zs o)) ∧ ∃ ps, H' S = some (.dT (dtF ps)) ∧ SubP zs i j ps) ⟨⟨_, rfl⟩, exa, hGa, hBa, ps, hSa, SP⟩ (fun i σ H' _ e => e.2.1.seqL hl nlp) (fun j y σ Ha Hc hj e hy => ?_) (fun σ H8 e => ?_)⟩
      · obtain ⟨rfl, hy⟩ := hy
        clear exa hGa hBa hSa SP
        obtain ⟨⟨o8, rfl⟩, exa, hGa, hBa, ps, hSa, SP⟩ := e
        have hy2 : (zs.map V.str)[j]? = some y := hy
        rw [List.getElem?_map] at hy2
        obtain ⟨y, hy3, rfl⟩ := Option.map_eq_some_iff.mp hy2
        refine ⟨_, rfl, _, rfl, rfl, _, rfl, ?_⟩
        by_cases ne : x = y
        · rw [show (!decide (V.str x = V.str y)) = false by simp [ne]]
          exact iteF (iteF ⟨⟨_, rfl⟩, exa, hGa, hBa, ps, hSa, SP.next⟩)
        · rw [show (!decide (V.str x = V.str y)) = true by simp [ne]]
          obtain ⟨a, b, c, ep⟩ := exa.pot
          refine iteT ⟨_, rfl, p, 3, a, b, c, rfl, ep, by decide, by decide, fun r a' b' c' r0 r1 => ⟨_, _, rfl, rfl, _, rfl, ?_⟩⟩
          have exb := exa.trans (Ex.turn (p := p) (H := Hc) (a := a') (b := b') (c := c'))
          have hGb : upd Hc p (potO a' b' c') GA = some (.dK (dkF zs g)) := by rw [upd_ne nGp]; exact hGa
          have hBb : upd Hc p (potO a' b' c') GB = some (.dK (dkF zs o)) := by rw [upd_ne nBp]; exact hBa
          have hSb : upd Hc p (potO a' b' c') S = some (.dT (dtF ps)) := by rw [upd_ne nSp]; exact hSa
          generalize upd Hc p (potO a' b' c') = Hd at exb hGb hBb hSb ⊢
          refine ite2 (fun _ => ?_) (fun _ => ⟨⟨_, rfl⟩, exb, hGb, hBb, ps, hSb, SP.next⟩)
          refine ⟨_, rfl, _, rfl, _, rfl, _, rfl, _, rfl, _, _, rfl, rfl, .inl ⟨by decide, by decide⟩, three, fun q1 hq1 => ?_⟩
          have f1 := same_new (o := .lst [.int m, .int W, .int (2 * W)]) hq1
          have exc := exb.same f1
          have nq1 : q1 ≠ p := by obtain ⟨_, _, _, e⟩ := exb.pot; exact (ne_of_none e hq1).symm
          refine ⟨p, q1, _, rfl, exc.pot, nq1, SqL.of upd_same, (by show 0 < 3; decide), (by show 3 < 100000; decide), fun v a2 b2 c2 hv => ?_⟩
          obtain ⟨X, rfl, X1, X18⟩ : ∃ X : Int, v = .int X ∧ 1 ≤ X ∧ X ≤ 18 := by
            have : v = .int m ∨ v = .int W ∨ v = .int (2 * W) := by simpa using hv
            rcases this with rfl | rfl | rfl
            · exact ⟨_, rfl, by omega, by omega⟩
            · exact ⟨_, rfl, by omega, by omega⟩
            · exact ⟨_, rfl, by omega, by omega⟩
          have hGc := f1 _ _ hGb
          have hBc := f1 _ _ hBb
          have hSc := f1 _ _ hSb
          generalize upd Hd q1 (.lst [.int m, .int W, .int (2 * W)]) = He at exc hGc hBc hSc ⊢
          refine ⟨p, X, a2, b2, c2, rfl, upd_same, by omega, by omega, fun r2 a3 b3 c3 r20 r21 => ⟨_, _, rfl, rfl, ?_⟩⟩
          have exd := (exc.trans (Ex.turn (p := p) (H := He) (a := a2) (b := b2) (c := c2))).trans (Ex.turn (p := p) (a := a3) (b := b3) (c := c3))
          have hGd : upd (upd He p (potO a2 b2 c2)) p (potO a3 b3 c3) GA = some (.dK (dkF zs g)) := by rw [upd_ne nGp, upd_ne nGp]; exact hGc
          have hBd : upd (upd He p (potO a2 b2 c2)) p (potO a3 b3 c3) GB = some (.dK (dkF zs o)) := by rw [upd_ne nBp, upd_ne nBp]; exact hBc
          have hSd : upd (upd He p (potO a2 b2 c2)) p (potO a3 b3 c3) S = some (.dT (dtF ps)) := by rw [upd_ne nSp, upd_ne nSp]; exact hSc
          generalize upd (upd He p (potO a2 b2 c2)) p (potO a3 b3 c3) = Hf at exd hGd hBd hSd ⊢
          refine ⟨_, rfl, _, rfl, _, rfl, two, fun t ht => ?_⟩
          have f2 := same_new (o := .tup [.str x, .str y]) ht
          obtain ⟨SP2, nw⟩ := SP.new (n := 1 + r2) nd hx hy3 ne (by omega) (by omega)
          refine ⟨S, _, rfl, .inr ⟨_, [.inr x, .inr y], t, f2 _ _ hSd, rfl, upd_same, keepS (H' := Hf) SP, rfl⟩, ⟨_, rfl⟩, (exd.same f2).put fS nSp, ?_, ?_, ps ++ [((x, y), 1 + r2)], ?_, SP2⟩
          · rw [upd_ne nGS]; exact f2 _ _ hGd
          · rw [upd_ne nBS]; exact f2 _ _ hBd
          · rw [upd_same, dtF_new nw]
      · obtain ⟨⟨o8, rfl⟩, exb, hGb, hBb, ps, hSb, SP⟩ := e
        exact ⟨⟨_, _, rfl⟩, exb, hGb, hBb, ps, hSb, SP.row⟩
    · obtain ⟨⟨o5, o8, rfl⟩, exb, hGb, hBb, ps, hSb, SP⟩ := e
      refine ⟨_, rfl, _, rfl, _, rfl, three, fun t ht => ?_⟩
      have f2 := same_new (o := .lst [.ref GA, .ref GB, .ref S]) ht
      refine hQ t GA GB S g o ps _ ⟨ok.one, nd, ok.pos, l5, List.Perm.refl _, fun z hz => ⟨(gb z hz).1, by have := (gb z hz).2; omega⟩, fun z hz => ⟨(ob z hz).1, by have := (ob z hz).2; omega⟩, SP.nd, fun e he => (SP.ks e he).2, ?_⟩ nAB (exb.free hp ht) fGA fGB fS (exb.same f2) upd_same (f2 _ _ hGb) (f2 _ _ hBb) (f2 _ _ hSb)
      have := SP.len
      have : zs.length * zs.length ≤ 5 * 5 := Nat.mul_le_mul l5 l5
      omega
end
end MN
/-! zip of two sequences, each of them a list or a tuple -/
namespace MN
open PySem PySem.Spec PyProof.Rows L2
def KIt : Bool → Heap → Addr → Addr → Nat → Prop
  | true, h, it, a, i => h.IsTupleIter it a i
  | false, h, it, a, i => h.IsListIter it a i
def KSq : Bool → Heap → Addr → Array Value → Prop
  | true, h, a, xs => h.IsTuple a xs
  | false, h, a, xs => h.IsList a xs
def SqK (K : PySem.W.Frag) : Bool → Hp → Addr → List V → Prop
  | true, H, a, xs => SqT K H a xs
  | false, H, a, xs => SqL K H a xs
def itObj : Bool → Addr → Obj
  | true, a => ⟨.type "tuple_iterator", none, .fields #[.ref a, .int 0 0], #[]⟩
  | false, a => ⟨.type "list_iterator", none, .fields #[.ref a, .int 0 0], #[]⟩
theorem drawsK {prog : Program} {w : World} {A : Around} (hh : A.handled = none) (b : Bool) (it a : Addr) (hne : a ≠ it) (items : Array Value) :
    Draws prog w A it [it, a] items.size (fun i v => items[i]? = some v) (fun i h => KIt b h it a i ∧ KSq b h a items) := by
  cases b with
  | false => exact Draws.list hh it a hne items
  | true => exact Draws.tuple hh it a hne items
theorem beginsK (b : Bool) (a : Addr) (items : Array Value) : Begins (.ref a) (itObj b a) fun h => KSq b h a items := by
  cases b with
  | false => exact begins_list a items
  | true => exact begins_tuple a items
section
variable {b : Bool} {h h' : Heap} {it a : Addr} {i : Nat} {xs : Array Value}
theorem KIt.obj (x : KIt b h it a i) : ∃ o, h.get? it = some o ∧ ∀ v, o.data ≠ .cell v := by
  cases b <;> (obtain ⟨o, e, _, d⟩ := x; exact ⟨o, e, fun v q => by rw [d] at q; cases q⟩)
theorem KIt.keep (x : KIt b h it a i) (k : ∀ o, h.get? it = some o → h'.get? it = some o) : KIt b h' it a i := by
  cases b <;> (obtain ⟨o, e, r⟩ := x; exact ⟨o, k _ e, r⟩)
theorem KIt.of (e : h.get? it = some (itObj b a)) : KIt b h it a 0 := by
  cases b <;> exact ⟨_, e, rfl, rfl⟩
theorem KSq.lt (x : KSq b h a xs) : a < h.objs.size := by
  cases b <;> (obtain ⟨o, e, _⟩ := x; exact Heap.lt_size e)
end
section
variable {X : Cx} {pins : List (Addr × Obj)} {σ : L2.St} {H : Hp} {s : Shared}
theorem seqK {b : Bool} {a : Addr} {xs : List V} (I : Inv X pins σ H s) (h : SqK X.K b H a xs) : ∃ its : List Value, Vals xs its ∧ KSq b s.heap a its.toArray := by
  cases b with
  | false =>
    obtain ⟨its, r, p, _⟩ := I.list h
    exact ⟨its, r, p.isList⟩
  | true =>
    obtain ⟨its, r, p, _⟩ := I.tuple h
    exact ⟨its, r, p⟩
theorem SqK.same {K : PySem.W.Frag} {H H' : Hp} {b : Bool} {a : Addr} {xs : List V} (e : Same H H') (h : SqK K b H a xs) : SqK K b H' a xs := by
  cases b with
  | false => exact Same.seq e h
  | true => exact Same.seqT e h
end
def ItzM (K : PySem.W.Frag) (ba bb : Bool) (a b : Addr) (xs ys : List V) : It :=
  ⟨fun i H => SqK K ba H a xs ∧ SqK K bb H b ys ∧ i < xs.length ∧ i < ys.length,
   YPair (fun i => xs[i]?) (fun i => ys[i]?),
   fun i H => SqK K ba H a xs ∧ SqK K bb H b ys ∧ i = min xs.length ys.length⟩
theorem turn_zipM {P : Program} {w : World} {K : PySem.W.Frag} {elts : List Expr} {kk : Nat} {tpos : Pos} {ba bb : Bool} {a b z TI TO i1 i2 : Addr} {xs ys : List V} (D : ZipSep2 z TI TO i1 i2 [i1, a] [i2, b]) (ha : a ≠ i1) (hb : b ≠ i2) :
    Turn P w K (.Tuple elts kk tpos) (ItzM K ba bb a b xs ys) [z, TI, TO, i1, i2] z (fun i h => IsZip h z TI TO .none ∧ IsTupOf2 h TI (.ref i1) (.ref i2) ∧ (∃ x y, IsTupOf2 h TO x y) ∧ KIt ba h i1 a i ∧ KIt bb h i2 b i) := by
  have obj : ∀ (i : Nat) (h : Heap), (IsZip h z TI TO .none ∧ IsTupOf2 h TI (.ref i1) (.ref i2) ∧ (∃ x y, IsTupOf2 h TO x y) ∧ KIt ba h i1 a i ∧ KIt bb h i2 b i) → ∀ c ∈ [z, TI, TO, i1, i2], ∃ o, h.get? c = some o ∧ ∀ v, o.data ≠ .cell v := fun i h st c hc => by
    obtain ⟨hz, hTI, ⟨x, y, hTO⟩, k1, k2⟩ := st
    simp only [List.mem_cons, List.not_mem_nil, or_false] at hc
    rcases hc with rfl | rfl | rfl | rfl | rfl
    · exact ⟨_, hz, nofun⟩
    · exact ⟨_, hTI, nofun⟩
    · exact ⟨_, hTO, nofun⟩
    · exact k1.obj
    · exact k2.obj
  refine ⟨by simp, obj, fun i h h' st k => ?_, ?_, ?_, fun A i s Q E st h => wpAny_pyIter_zip st.1 h⟩
  · obtain ⟨hz, hTI, ⟨x, y, hTO⟩, k1, k2⟩ := st
    exact ⟨k z (by simp) _ hz, k TI (by simp) _ hTI, ⟨x, y, k TO (by simp) _ hTO⟩, k1.keep (k i1 (by simp)), k2.keep (k i2 (by simp))⟩
  · intro X hP hw hK hc i pins s σ H E I hf st hg
    subst hP hw hK
    have st0 := st
    obtain ⟨hz, hTI, hTO, k1, k2⟩ := st
    obtain ⟨qx, qy, hx, hy⟩ := hg
    obtain ⟨its, rv, p1⟩ := seqK I qx
    obtain ⟨its2, rv2, p2⟩ := seqK I qy
    obtain ⟨u0, hu0, ru⟩ := rv.get (List.getElem?_eq_getElem hx)
    obtain ⟨w0, hw0, rw0⟩ := rv2.get (List.getElem?_eq_getElem hy)
    have l1 := rv.length
    have l2 := rv2.length
    refine (GoesN.zip2 (elts := elts) (x1 := kk) (pos := tpos) D (drawsK (A := X.A.in1) (I.ok.hd hc) ba i1 a ha its.toArray) (drawsK (A := X.A.in1) (I.ok.hd hc) bb i2 b hb its2.toArray)).goes i s _ E (by simp; omega) ⟨hz, hTI, hTO, ⟨k1, p1⟩, ⟨k2, p2⟩⟩ fun v h' tk y st' hk _ => ?_
    obtain ⟨T, u, u2, rfl, hT, hu, hu2, ht⟩ := y
    obtain ⟨hz', hTI', hTO', ⟨k1', _⟩, ⟨k2', _⟩⟩ := st'
    obtain rfl : u0 = u := by simpa [hu0] using hu
    obtain rfl : w0 = u2 := by simpa [hw0] using hu2
    refine ⟨.ref T, upd H T (.tup [xs[i], ys[i]]), I.turnedNew (t' := tk) (ch := [z, TI, TO, i1, i2]) (fun c o hb q => hk c o (fun m => hb ?_) q) hf hT ⟨by show 2 ≤ sizeLine; decide, [u0, w0], .cons ru (.cons rw0 .nil), ht⟩, rfl,
      ⟨T, _, _, rfl, I.hok.fresh hT, rfl, List.getElem?_eq_getElem hx, List.getElem?_eq_getElem hy⟩, ⟨hz', hTI', hTO', k1', k2'⟩, fun c hcm => ?_⟩
    · simp only [List.mem_cons, List.not_mem_nil, or_false] at m ⊢
      rcases m with m | m | m | m
      · exact .inl m
      · exact .inr (.inr (.inl m))
      · exact .inr (.inr (.inr (.inl m)))
      · exact .inr (.inr (.inr (.inr m)))
    · obtain ⟨o, ho, _⟩ := obj i _ st0 c hcm
      have hlt : c < s.heap.objs.size := Heap.lt_size ho
      rw [upd_ne (Nat.ne_of_lt (Nat.lt_of_lt_of_le hlt hT))]
      exact (hf c hcm).1
  · intro X hP hw hK hc i pins s σ H E I hf st hg
    subst hP hw hK
    obtain ⟨hz, hTI, hTO, k1, k2⟩ := st
    obtain ⟨qx, qy, hi⟩ := hg
    obtain ⟨its, rv, p1⟩ := seqK I qx
    obtain ⟨its2, rv2, p2⟩ := seqK I qy
    have l1 := rv.length
    have l2 := rv2.length
    obtain rfl : i = min its.toArray.size its2.toArray.size := by simp; omega
    refine (GoesN.zip2 (elts := elts) (x1 := kk) (pos := tpos) D (drawsK (A := X.A.in1) (I.ok.hd hc) ba i1 a ha its.toArray) (drawsK (A := X.A.in1) (I.ok.hd hc) bb i2 b hb its2.toArray)).stops s _ E ⟨hz, hTI, hTO, ⟨k1, p1⟩, ⟨k2, p2⟩⟩ fun h' tk hk _ => ?_
    refine I.turnedL (t' := tk) (ch := [z, TI, TO, i1, i2]) (fun c o hb q => hk c o (fun m => hb ?_) q) hf
    simp only [List.mem_cons, List.not_mem_nil, or_false] at m ⊢
    rcases m with m | m | m | m
    · exact .inl m
    · exact .inr (.inr (.inl m))
    · exact .inr (.inr (.inr (.inl m)))
    · exact .inr (.inr (.inr (.inr m)))
def iZipM (K : PySem.W.Frag) (ba bb : Bool) (ta : TA) : TI := fun σ H R => ta σ H fun vs H1 => ∃ a b xs ys, vs = [.ref a, .ref b] ∧ SqK K ba H1 a xs ∧ SqK K bb H1 b ys ∧ R (ItzM K ba bb a b xs ys) H1
theorem pi_zipM {X : Cx} {e e2 : Expr} {ta : TA} {p pos tpos : Pos} {elts : List Expr} {kk : Nat} (ba bb : Bool) (hg : Gl X "zip") (hm : X.mg "zip" = none) (ha : PA X [e, e2] ta)
    (hs : starEach [e, e2] X.env = (false, eval e X.env) :: starEach [e2] X.env := by rfl) (hpl : (backTo pos (starEach [e2] X.env)).any (·.1) = false := by rfl) :
    PI X (.Tuple elts kk tpos) (.Call (.Name "zip" p) [e, e2] [] pos) (iZipM X.K ba bb ta) := by
  refine ⟨fun pins s σ H R I h => Call_ (ld_blt I hg hm PyProof.Rows.boot_zip (PyProof.Rows.callWith_type1 (thn (ha.run pos pins s σ H _ I h) fun us s1 ⟨vs, H1, I1, r1, q1⟩ => ?_) hs hpl))⟩
  obtain ⟨a, b, xs, ys, rfl, qx, qy, q⟩ := q1
  obtain ⟨u1, u2, rfl, r2, r3⟩ := vals2 r1
  cases r2
  cases r3
  obtain ⟨its, rv, p1⟩ := seqK I1 qx
  obtain ⟨its2, rv2, p2⟩ := seqK I1 qy
  have la := p1.lt
  have lb := p2.lt
  refine zip_begins2 (beginsK ba a its.toArray) (beginsK bb b its2.toArray) p1 p2 fun h' hz hTI hTO h1 h2 _ hk => wpAny_pyIter_zip hz ?_
  have I2 : Inv X pins σ H1 { s1 with heap := h' } := I1.kept (t' := s1.toks) hk
  refine ⟨s1.heap.objs.size + 4, [s1.heap.objs.size + 4, s1.heap.objs.size + 2, s1.heap.objs.size + 3, s1.heap.objs.size, s1.heap.objs.size + 1], _, _, H1, rfl, I2, turn_zipM (ba := ba) (bb := bb) (zip_sep2 (fp1 := [a]) (fp2 := [b]) ?_ ?_) ?_ ?_, ⟨hz, hTI, ⟨_, _, hTO⟩, KIt.of h1, KIt.of h2⟩, fun c hcm => ?_, q⟩
  · intro c hc; rw [List.mem_singleton.mp hc]; exact la
  · intro c hc; rw [List.mem_singleton.mp hc]; exact lb
  · exact Nat.ne_of_lt la
  · exact Nat.ne_of_lt (Nat.lt_succ_of_lt lb)
  · have hle : s1.heap.objs.size ≤ c := by
      simp only [List.mem_cons, List.not_mem_nil, or_false] at hcm
      rcases hcm with rfl | rfl | rfl | rfl | rfl
      all_goals first | exact Nat.le_refl _ | exact Nat.le_add_right _ _
    exact I1.fpOk hle (I1.hok.fresh hle)
theorem walk_zipM {K : PySem.W.Frag} {ba bb : Bool} {a b : Addr} {xs ys : List V} {n : Nat} (hn : n = min xs.length ys.length) : Walk (ItzM K ba bb a b xs ys) n (fun H => SqK K ba H a xs ∧ SqK K bb H b ys) (YPair (fun i => xs[i]?) (fun i => ys[i]?)) := by
  subst hn
  exact ⟨fun i _ hi q => ⟨q.1, q.2, by omega, by omega⟩, fun _ q => ⟨q.1, q.2, rfl⟩, fun i H v H' _ _ y => y⟩
end MN
/-! match with patterns of tuples: texts and captures -/
namespace MN
open PySem PySem.Spec PyProof.Rows L2
inductive EPt where
  | val (z : Str)
  | cap (i : Nat)
/-- whether the items fit: what is told of it -/
def rFit (K : PySem.W.Frag) : List EPt → List V → Hp → (Bool → Prop) → Prop
  | [], [], _, q => q true
  | .val z :: ps, x :: xs, H, q => ∃ d, Dp K H x d ∧ SeqAt.shaped d = true ∧ (PyData.eqv d (.str z) = true → rFit K ps xs H q) ∧ (PyData.eqv d (.str z) = false → q false)
  | .cap _ :: ps, _ :: xs, H, q => rFit K ps xs H q
  | _, _, _, _ => False
def bindE : List EPt → List V → L2.St → L2.St
  | .cap i :: ps, x :: xs, σ => bindE ps xs (σ.set i (some x))
  | .val _ :: ps, _ :: xs, σ => bindE ps xs σ
  | _, _, σ => σ
def capB : List Pattern → List Value → List (Str × Value)
  | .MatchAs none (some x) _ :: ps, u :: us => (x, u) :: capB ps us
  | _ :: ps, _ :: us => capB ps us
  | _, _ => []
inductive EOk (X : Cx) : Pattern → EPt → Prop
  | val {z : Str} {j : Nat} {p1 p2 : Pos} (h : SeqAt.shaped (.str z) = true) : EOk X (.MatchValue (.Constant (.str z) j p1) p2) (.val z)
  | cap {i : Nat} {x : Str} {p : Pos} (hi : X.N[i]? = some x) (hx : Loc X.env.scope x) (hf : X.fn x = true ∨ X.env.scope.names.lookup x = some .local) : EOk X (.MatchAs none (some x) p) (.cap i)
inductive EsOk (X : Cx) : List Pattern → List EPt → Prop
  | nil : EsOk X [] []
  | cons {p : Pattern} {e : EPt} {ps : List Pattern} {es : List EPt} (h : EOk X p e) (hs : EsOk X ps es) : EsOk X (p :: ps) (e :: es)
section
variable {X : Cx} {pins : List (Addr × Obj)} {σ : L2.St} {H : Hp}
theorem EsOk.length {ps : List Pattern} {es : List EPt} (h : EsOk X ps es) : ps.length = es.length := by
  induction h with
  | nil => rfl
  | cons _ _ ih => rw [List.length_cons, List.length_cons, ih]
theorem match_each (hu : X.A.units + 64 < cLine) {ps : List Pattern} {es : List EPt} (hE : EsOk X ps es) : ∀ {xs : List V} {us : List Value} {s : Shared} {q : Bool → Prop}, Vals xs us → Inv X pins σ H s → rFit X.K es xs H q →
    wpAny (model X.prog X.w) X.A (matchEach ps X.env us) (fun r s' => Inv X pins σ H s' ∧ ((r = none ∧ q false) ∨ (r = some (capB ps us) ∧ q true))) X.xe s := by
  induction hE with
  | nil =>
    intro xs us s q rv I h
    cases rv with
    | nil => exact wpAny_matchEach_nil ⟨I, .inr ⟨rfl, h⟩⟩
    | cons _ _ => exact h.elim
  | @cons p e ps es hp hs ih =>
    intro xs us s q rv I h
    cases hp with
    | @val z j p1 p2 hz =>
      cases rv with
      | nil => exact h.elim
      | cons rx rr =>
        obtain ⟨d, hd, sd, h1, h2⟩ := h
        refine wpAny_matchEach_cons (wpAny_matchPattern_Value (thn ((pe_str (X := X) (x := z) (j := j) (pos := p1)).run pins s σ H (fun v H1 => v = .str z ∧ H1 = H) I ⟨rfl, rfl⟩) fun c s1 ⟨v, H1, I1, rc, e1, e2⟩ => ?_)) rfl
        subst e1 e2
        refine thn (op_eqD hu pins s1 σ _ _ _ _ _ (fun v H2 => v = .bl (PyData.eqv d (.str z)) ∧ H2 = H1) I1 rx rc ⟨d, .str z, hd, .str z, sd, hz, rfl, rfl⟩) fun b s2 ⟨v, H2, I2, rb, e1, e2⟩ => ?_
        subst e1 e2
        obtain rfl : b = Value.bool (PyData.eqv d (.str z)) := rb
        refine wpAny_truthy_bool ?_
        cases hb : PyData.eqv d (.str z) with
        | false => exact ⟨I2, .inl ⟨rfl, h2 hb⟩⟩
        | true =>
          refine thn (ih rr I2 (h1 hb)) fun r s3 h3 => ?_
          obtain ⟨I3, ⟨rfl, h3⟩ | ⟨rfl, h3⟩⟩ := h3
          · exact ⟨I3, .inl ⟨rfl, h3⟩⟩
          · exact ⟨I3, .inr ⟨rfl, h3⟩⟩
    | @cap i x p hi hx hf =>
      cases rv with
      | nil => exact h.elim
      | cons rx rr =>
        refine wpAny_matchEach_cons (wpAny_matchPattern_Capture ?_) rfl
        refine thn (ih rr I h) fun r s3 h3 => ?_
        obtain ⟨I3, ⟨rfl, h3⟩ | ⟨rfl, h3⟩⟩ := h3
        · exact ⟨I3, .inl ⟨rfl, h3⟩⟩
        · exact ⟨I3, .inr ⟨rfl, h3⟩⟩
theorem bind_ok (hN : X.N.Nodup) {ps : List Pattern} {es : List EPt} (hE : EsOk X ps es) : ∀ {xs : List V} {us : List Value} {σ : L2.St} {s : Shared} {Q : Unit → Shared → Prop}, Vals xs us → Inv X pins σ H s → (∀ s', Inv X pins (bindE es xs σ) H s' → Q () s') →
    wpAny (model X.prog X.w) X.A (assignInOrder ((capB ps us).map fun n => bindName X.env n.1) ((capB ps us).map (·.2))) Q X.xe s := by
  induction hE with
  | nil =>
    intro xs us σ s Q rv I h
    exact wpAny_assignInOrder_none (h s I)
  | @cons p e ps es hp hs ih =>
    intro xs us σ s Q rv I h
    cases hp with
    | val hz =>
      cases rv with
      | nil => exact wpAny_assignInOrder_none (h s I)
      | cons rx rr => exact ih rr I h
    | @cap i x p hi hx hf =>
      cases rv with
      | nil => exact wpAny_assignInOrder_none (h s I)
      | cons rx rr =>
        refine wpAny_assignInOrder_more ?_
        show wpAny _ _ (bindName X.env x _) _ _ _
        unfold bindName
        refine wpAny_bind (wpAny_holding (wpAny_point ?_))
        refine wpAny_bind (store_ok I hN hi hx rx (fun s' I' => ?_) hf)
        exact wpAny_point (ih rr I' h)
end
/-- the cases -/
structure PCs (X : Cx) (cs : List MatchCase) (t : V → TS) : Prop where
  run : ∀ (pins : List (Addr × Obj)) (s : Shared) (σ : L2.St) (H : Hp) (D : Ends) (v : V) (u : Value) (first : Bool), Inv X pins σ H s → RelV v u → t v D σ H → wpAny (model X.prog X.w) X.A (matchCases cs X.env u first) (SP X pins D) X.xe s
def tCaseS (K : PySem.W.Frag) (es : List EPt) (tb : TS) (tr : V → TS) : V → TS := fun v D σ H => ∃ a xs, v = .ref a ∧ SqT K H a xs ∧ (xs.length = es.length → rFit K es xs H fun b => if b = true then tb D (bindE es xs σ) H else tr v D σ H) ∧ (xs.length ≠ es.length → tr v D σ H)
section
variable {X : Cx}
theorem pcs_nil : PCs X [] (fun _ D σ H => D.nx σ H) := ⟨fun pins s σ H D v u first I r h => wpAny_matchCases_nil ⟨σ, H, I, h⟩⟩
theorem pcs_any {body : List Stmt} {tb : TS} {pos : Pos} {rest : List MatchCase} (hb : PSs X body tb) : PCs X (⟨.MatchAs none none pos, none, body⟩ :: rest) (fun _ => tb) :=
  ⟨fun pins s σ H D v u first I r h => wpAny_matchCases_cons (wpAny_matchPattern_Capture (wpAny_assignInOrder_none (hb.run pins s σ H D I h)))⟩
theorem pcs_seq {K : PySem.W.Frag} (hK : X.K = K) {ps : List Pattern} {es : List EPt} {body : List Stmt} {tb : TS} {tr : V → TS} {pos : Pos} {rest : List MatchCase} (hu : X.A.units + 64 < cLine) (hc : X.calm = true) (hN : X.N.Nodup) (hE : EsOk X ps es) (hb : PSs X body tb) (hr : PCs X rest tr)
    (hstar : ps.findIdx? (·.isStar) = none := by rfl) (hwild : (ps.all fun p => p.isWildcard || (p.isStar && p.names.isEmpty)) = false := by rfl) : PCs X (⟨.MatchSequence ps pos, none, body⟩ :: rest) (tCaseS K es tb tr) := by
  subst hK
  refine ⟨fun pins s σ H D v u first I r h => ?_⟩
  obtain ⟨a, xs, rfl, ha, h1, h2⟩ := h
  obtain rfl : u = Value.ref a := r
  obtain ⟨its, rv, ht, hz⟩ := I.tuple ha
  have big : sizeLine < 2 ^ 63 := by decide
  have hfit : ((its.toArray.size : Nat) : Int) < 2 ^ 63 := by
    have := rv.length
    simp only [List.size_toArray]
    omega
  have I2 : Inv X pins σ H { s with toks := s.toks + 1 + 1 } := I.kept (h' := s.heap) (t' := s.toks + 1 + 1) fun b o e => e
  refine wpAny_matchCases_cons ?_
  by_cases hl : xs.length = es.length
  · have hn : its.toArray.size = ps.length := by rw [List.size_toArray, hE.length, ← hl, rv.length]
    refine matchSeq_tuple_hit ht hfit hn ?_ hstar hwild
    rw [← hn]
    refine wpAny_unpackItems_tuple (I.ok.hd hc) ht fun h' hx => ?_
    have I3 : Inv X pins σ H { s with heap := h', toks := s.toks + 1 + 1 } := I2.kept (t' := s.toks + 1 + 1) fun b o e => hx b o (Nat.ne_of_lt (Heap.lt_size e)) e
    refine thn (match_each hu hE rv I3 (h1 hl)) fun r s3 ⟨I4, h4⟩ => ?_
    rcases h4 with ⟨rfl, h4⟩ | ⟨rfl, h4⟩
    · exact hr.run pins s3 σ H D (.ref a) _ false I4 rfl h4
    · refine bind_ok hN hE rv I4 fun s' I5 => hb.run pins s' _ H D I5 h4
  · have hn : its.toArray.size ≠ ps.length := by rw [List.size_toArray, hE.length, ← rv.length]; exact hl
    exact matchSeq_tuple_miss ht hfit hn (hr.run pins _ σ H D (.ref a) _ false I2 rfl (h2 hl)) hstar hwild
theorem ps_match {e : Expr} {te : TE} {cs : List MatchCase} {t : V → TS} {pos : Pos} (he : PE X e te) (hc : PCs X cs t) : PS X (.Match e cs pos) (fun D σ H => te σ H fun v H1 => t v D σ H1) :=
  ⟨fun pins s σ H D I h => wpAny_Match (thn (he.run pins s σ H _ I h) fun u s1 ⟨v, H1, I1, r, q⟩ => hc.run pins s1 σ H1 D v u true I1 r q)⟩
end
end MN
/-! values as data: their kinds, bounds of their shown text -/
namespace MN
open PySem PySem.Spec PyProof.Rows L2
/-- data of small depth and weight, without dicts, maybe with long numbers -/
structure Sb (n w : Nat) (d : PyData) : Prop where
  dp : d.depth ≤ n
  wt : d.weight ≤ w
  sh : d.showable = true
  nd : d.hasDict = false
  cl : d.canLay0 = true
  ss : d.intsShort 120 = true
theorem Sb.mono {n w n' w' : Nat} {d : PyData} (h : Sb n w d) (hn : n ≤ n') (hw : w ≤ w') : Sb n' w' d := { h with dp := Nat.le_trans h.dp hn, wt := Nat.le_trans h.wt hw }
theorem sb_all {n w : Nat} {l : List PyData} (h : ∀ d ∈ l, Sb n w d) : PyData.depthAll l ≤ n ∧ PyData.weightAll l ≤ l.length * (w + 1) ∧ PyData.showableAll l = true ∧ PyData.hasDictAll l = false ∧ PyData.canLayAll0 l = true ∧ PyData.intsShortAll 120 l = true := by
  induction l with
  | nil => exact ⟨Nat.zero_le _, Nat.zero_le _, rfl, rfl, rfl, rfl⟩
  | cons a l ih =>
    obtain ⟨i1, i2, i3, i4, i5, i6⟩ := ih fun d hd => h d (List.mem_cons_of_mem _ hd)
    have k := h a List.mem_cons_self
    refine ⟨?_, ?_, ?_, ?_, ?_, ?_⟩
    · rw [PyData.depthAll]; have := k.dp; omega
    · rw [PyData.weightAll, List.length_cons, Nat.add_mul]; have := k.wt; omega
    · rw [PyData.showableAll, k.sh, i3]; rfl
    · rw [PyData.hasDictAll, k.nd, i4]; rfl
    · rw [PyData.canLayAll0, k.cl, i5]; rfl
    · rw [PyData.intsShortAll, k.ss, i6]; rfl
theorem Sb.list {n w : Nat} {l : List PyData} (h : ∀ d ∈ l, Sb n w d) : Sb (n + 1) (l.length * (w + 1)) (.list l) := by
  obtain ⟨i1, i2, i3, i4, i5, i6⟩ := sb_all h
  exact ⟨by rw [PyData.depth]; omega, by rw [PyData.weight]; exact i2, by rw [PyData.showable]; exact i3, by rw [PyData.hasDict]; exact i4, by rw [PyData.canLay0]; exact i5, by rw [PyData.intsShort]; exact i6⟩
theorem Sb.tuple {n w : Nat} {l : List PyData} (h : ∀ d ∈ l, Sb n w d) : Sb (n + 1) (l.length * (w + 1)) (.tuple l) := by
  obtain ⟨i1, i2, i3, i4, i5, i6⟩ := sb_all h
  exact ⟨by rw [PyData.depth]; omega, by rw [PyData.weight]; exact i2, by rw [PyData.showable]; exact i3, by rw [PyData.hasDict]; exact i4, by rw [PyData.canLay0]; exact i5, by rw [PyData.intsShort]; exact i6⟩
theorem Sb.none : Sb 0 0 .none := ⟨by rw [PyData.depth]; exact Nat.le_refl _, by rw [PyData.weight]; exact Nat.le_refl _, rfl, rfl, rfl, rfl⟩
theorem Sb.bool (b : Bool) : Sb 0 0 (.bool b) := ⟨by rw [PyData.depth]; exact Nat.le_refl _, by rw [PyData.weight]; exact Nat.le_refl _, rfl, rfl, rfl, rfl⟩
theorem Sb.str {z : Str} {L : Nat} (hl : z.length ≤ L) (hc : PyData.strOk z = true) : Sb 0 L (.str z) := ⟨by rw [PyData.depth]; exact Nat.le_refl _, by rw [PyData.weight]; exact hl, rfl, rfl, by rw [PyData.canLay0]; exact hc, rfl⟩
theorem Sb.int {k : Int} (h0 : 0 ≤ k) (h1 : k ≤ 100000) : Sb 0 20 (.int k) := by
  have lg : k.natAbs.log2 < 17 := by
    by_cases z : k.natAbs = 0
    · rw [z]; decide
    · rw [Nat.log2_lt z]
      have : (2 : Nat) ^ 17 = 131072 := by decide
      omega
  refine ⟨by rw [PyData.depth]; exact Nat.le_refl _, ?_, ?_, rfl, rfl, ?_⟩
  · rw [PyData.weight]
    split <;> omega
  · have := PyData.showableAll_ints [k] fun m hm => by rw [show m = k from by simpa using hm]; omega
    rw [List.map_cons, PyData.showableAll, Bool.and_eq_true] at this
    exact this.1
  · have := PyData.intsShortAll_ints [k] fun m hm => by
      rw [show m = k from by simpa using hm]
      have : (10 : Nat) ^ 12 = 1000000000000 := by decide
      omega
    rw [List.map_cons, PyData.intsShortAll, Bool.and_eq_true] at this
    have h := this.1
    rw [PyData.intsShort, decide_eq_true_eq] at h ⊢
    omega
/-- its shown text fits -/
theorem Sb.fits {n w : Nat} {d : PyData} (h : Sb n w d) (hw : w ≤ 100000) : d.shown.length ≤ sizeLine := by
  have h1 := PyData.shown_le 120 (by decide) d (PyData.leavesShort_of_canLay0 120 d h.cl h.ss)
  have h2 : 122 * d.weight ≤ 122 * 100000 := Nat.mul_le_mul_left _ (Nat.le_trans h.wt hw)
  have h3 : 13000000 < sizeLine := by decide
  omega
theorem Sb.shaped {n w : Nat} {d : PyData} (h : Sb n w d) (hn : n ≤ 60) : SeqAt.shaped d = true := by
  unfold SeqAt.shaped
  rw [h.cl, Bool.true_and]
  exact decide_eq_true (Nat.le_trans h.dp (by omega))
def dTy : PyData → String
  | .none => "NoneType"
  | .bool _ => "bool"
  | .int _ => "int"
  | .str _ => "str"
  | .list _ => "list"
  | .tuple _ => "tuple"
  | .dict _ => "dict"
section
variable {K : PySem.W.Frag} {H H' : Hp}
mutual
theorem dp_same (e : Same H H') : ∀ (d : PyData) (v : V), Dp K H v d → Dp K H' v d
  | .none, _, .non => .non
  | .bool _, _, .bl _ => .bl _
  | .int _, _, .int _ => .int _
  | .str _, _, .str _ => .str _
  | .list ds, _, .lst hs ha => .lst (Same.seq e hs) (dpa_same e ds _ ha)
  | .tuple ds, _, .tup hs ha => .tup (Same.seqT e hs) (dpa_same e ds _ ha)
theorem dpa_same (e : Same H H') : ∀ (ds : List PyData) (vs : List V), DpAll K H vs ds → DpAll K H' vs ds
  | [], _, .nil => .nil
  | d :: ds, _, .cons h r => .cons (dp_same e d _ h) (dpa_same e ds _ r)
end
theorem dp_ty {v : V} {d : PyData} (h : Dp K H v d) : TyX K H v (.type (dTy d)) := by
  cases h with
  | non => exact .base .non
  | bl b => exact .base (.bl b)
  | int i => exact .base (.int i)
  | str z => exact .base (.str z)
  | lst hs _ =>
    rcases hs with (h | ⟨o, h⟩) | ⟨o, its, n, hk, hc, _⟩
    · exact .base (.lst h)
    · exact .base (.frz h)
    · exact .kList hk hc
  | tup hs _ =>
    rcases hs with (h | ⟨o, h⟩) | ⟨o, its, n, hk, hc, _⟩
    · exact .base (.tup h)
    · exact .fTuple h
    · exact .kTuple hk hc
theorem dp_isX {v : V} {d : PyData} {t : String} (h : Dp K H v d) (ht : dTy d = t) {c : String} {b : Bool} (hk : kitB t c = some b) : IsX K H v c b := IsX.ty (ht ▸ dp_ty h) hk
def isTD : PyData → Bool
  | .tuple _ => true
  | _ => false
theorem dp_isT {v : V} {d : PyData} (h : Dp K H v d) : IsX K H v "tuple" (isTD d) := by
  cases d with
  | none => exact dp_isX (t := "NoneType") (b := false) h rfl (by decide +kernel)
  | bool _ => exact dp_isX (t := "bool") (b := false) h rfl (by decide +kernel)
  | int _ => exact dp_isX (t := "int") (b := false) h rfl (by decide +kernel)
  | str _ => exact dp_isX (t := "str") (b := false) h rfl (by decide +kernel)
  | list _ => exact dp_isX (t := "list") (b := false) h rfl (by decide +kernel)
  | tuple _ => exact dp_isX (t := "tuple") (b := true) h rfl (by decide +kernel)
  | dict _ => exact dp_isX (t := "dict") (b := false) h rfl (by decide +kernel)
theorem dp_valOk {v : V} {d : PyData} (h : Dp K H v d) (hz : ∀ z, d = .str z → z.length ≤ 100000) : ValOk K H v := by
  cases h with
  | str z => exact .str (hz z rfl)
  | non => exact .inr ⟨fun _ z => (nomatch z), dp_isX (t := "NoneType") (Dp.non : Dp K H _ _) rfl (by decide +kernel)⟩
  | bl b => exact .inr ⟨fun _ z => (nomatch z), dp_isX (t := "bool") (Dp.bl b : Dp K H _ _) rfl (by decide +kernel)⟩
  | int i => exact .inr ⟨fun _ z => (nomatch z), dp_isX (t := "int") (Dp.int i : Dp K H _ _) rfl (by decide +kernel)⟩
  | lst hs ha => exact .inr ⟨fun _ z => (nomatch z), dp_isX (t := "list") (Dp.lst hs ha) rfl (by decide +kernel)⟩
  | tup hs ha => exact .inr ⟨fun _ z => (nomatch z), dp_isX (t := "tuple") (Dp.tup hs ha) rfl (by decide +kernel)⟩
/-- repr of such data -/
theorem dp_repr {v : V} {d : PyData} (h : Dp K H v d) {n w : Nat} (b : Sb n w d) (hn : n ≤ 60) (hw : w ≤ 100000) : ∃ z, ReprV K H v z ∧ z = d.shown := by
  have ft := b.fits hw
  cases h with
  | lst hs ha => exact ⟨_, .dat (.lst hs ha) rfl b.sh b.nd (Nat.le_trans b.dp hn) ft, rfl⟩
  | tup hs ha => exact ⟨_, .dat (.tup hs ha) rfl b.sh b.nd (Nat.le_trans b.dp hn) ft, rfl⟩
  | non => exact ⟨_, .non, rfl⟩
  | bl x =>
    refine ⟨_, .bl x, ?_⟩
    cases x <;> rfl
  | int i =>
    refine ⟨_, .int i ?_, rfl⟩
    have h2 := b.sh
    rw [PyData.showable, decide_eq_true_eq] at h2
    exact h2
  | str z => exact ⟨_, .str z ft, rfl⟩
theorem dpa_len {vs : List V} {ds : List PyData} (h : DpAll K H vs ds) : vs.length = ds.length := by
  induction ds generalizing vs with
  | nil => cases h; rfl
  | cons d ds ih =>
    cases h with
    | cons h r => rw [List.length_cons, List.length_cons, ih r]
theorem dpa_get {vs : List V} {ds : List PyData} (h : DpAll K H vs ds) {i : Nat} {v : V} {d : PyData} (hv : vs[i]? = some v) (hd : ds[i]? = some d) : Dp K H v d := by
  induction ds generalizing vs i with
  | nil => cases hd
  | cons a ds ih =>
    cases h with
    | cons h r =>
      cases i with
      | zero => cases hv; cases hd; exact h
      | succ i => exact ih r hv hd
theorem dpa_app {vs vs' : List V} {ds ds' : List PyData} (h : DpAll K H vs ds) (h' : DpAll K H vs' ds') : DpAll K H (vs ++ vs') (ds ++ ds') := by
  induction ds generalizing vs with
  | nil => cases h; exact h'
  | cons d ds ih =>
    cases h with
    | cons h r => exact .cons h (ih r)
end
end MN
/-! changes of words: what they make, how they are taken back -/
namespace MN
open PySem PySem.Spec PyProof.Rows L2
abbrev abc : List Nat := ("abcde" : Str).cps.toList
inductive Ch5 where
  | put (i c : Nat)
  | out (i : Nat)
  | swap (i c : Nat)
namespace Ch5
/-- it can be made -/
def Ok (u : List Nat) : Ch5 → Prop
  | put i c => i ≤ u.length ∧ c ∈ abc
  | out i => i < u.length
  | swap i c => i < u.length ∧ c ∈ abc ∧ u[i]? ≠ some c
def app (u : List Nat) : Ch5 → List Nat
  | put i c => u.take i ++ c :: u.drop i
  | out i => u.take i ++ u.drop (i + 1)
  | swap i c => u.take i ++ c :: u.drop (i + 1)
def dat : Ch5 → PyData
  | put i c => .tuple [.str "put", .int ((i : Nat) : Int), .str (sgS c)]
  | out i => .tuple [.str "out", .int ((i : Nat) : Int)]
  | swap i c => .tuple [.str "swap", .int ((i : Nat) : Int), .str (sgS c)]
def back (u : List Nat) : Ch5 → Ch5
  | put i _ => out i
  | out i => put i (u.getD i 0)
  | swap i _ => swap i (u.getD i 0)
theorem dat_inj {a b : Ch5} (h : a.dat = b.dat) : a = b := by
  have np : (("put" : Str) = "swap") → False := by decide
  cases a <;> cases b <;> simp only [dat, PyData.tuple.injEq, List.cons.injEq, PyData.str.injEq, PyData.int.injEq, and_true, true_and, reduceCtorEq, and_false, Int.natCast_inj] at h
  · obtain ⟨rfl, h2⟩ := h
    exact congrArg (Ch5.put _) (show _ = _ from congrArg codeOf h2)
  · exact absurd h.1 (by decide)
  · rw [h]
  · exact absurd h.1 (by decide)
  · obtain ⟨rfl, h2⟩ := h
    exact congrArg (Ch5.swap _) (show _ = _ from congrArg codeOf h2)
theorem app_len {u : List Nat} {c : Ch5} (h : c.Ok u) : (c.app u).length ≤ u.length + 1 := by
  cases c <;> simp only [Ok] at h <;> simp only [app, List.length_append, List.length_cons, List.length_take, List.length_drop] <;> omega
theorem app_sg {u : List Nat} {c : Ch5} (h : c.Ok u) (hu : ∀ a ∈ u, a ∈ abc) : ∀ a ∈ c.app u, a ∈ abc := by
  intro a ha
  cases c <;> simp only [Ok] at h <;> simp only [app, List.mem_append, List.mem_cons] at ha
  · rcases ha with ha | rfl | ha
    · exact hu a (List.mem_of_mem_take ha)
    · exact h.2
    · exact hu a (List.mem_of_mem_drop ha)
  · rcases ha with ha | ha
    · exact hu a (List.mem_of_mem_take ha)
    · exact hu a (List.mem_of_mem_drop ha)
  · rcases ha with ha | rfl | ha
    · exact hu a (List.mem_of_mem_take ha)
    · exact h.2.1
    · exact hu a (List.mem_of_mem_drop ha)
theorem getD_of {u : List Nat} {i : Nat} (h : i < u.length) : u[i]? = some (u.getD i 0) := by
  rw [List.getD_eq_getElem?_getD, List.getElem?_eq_getElem h]
  rfl
theorem mid {u : List Nat} {i : Nat} (h : i < u.length) : u.take i ++ u.getD i 0 :: u.drop (i + 1) = u := by
  have e : u.getD i 0 = u[i] := by rw [List.getD_eq_getElem?_getD, List.getElem?_eq_getElem h]; rfl
  rw [e, ← List.drop_eq_getElem_cons h, List.take_append_drop]
theorem at_mid {u v : List Nat} {i c : Nat} (h : i ≤ u.length) : (u.take i ++ c :: v)[i]? = some c := by
  have hl : (u.take i).length = i := by rw [List.length_take]; omega
  rw [List.getElem?_append_right (by omega), hl, Nat.sub_self]
  rfl
theorem take_mid {u v : List Nat} {i : Nat} (h : i ≤ u.length) : (u.take i ++ v).take i = u.take i := by
  have hl : (u.take i).length = i := by rw [List.length_take]; omega
  rw [List.take_append_of_le_length (by omega), List.take_take, Nat.min_self]
theorem drop_mid {u v : List Nat} {i c : Nat} (h : i ≤ u.length) : (u.take i ++ c :: v).drop (i + 1) = v := by
  have hl : (u.take i).length = i := by rw [List.length_take]; omega
  rw [List.drop_append, hl, List.drop_eq_nil_of_le (by omega), List.nil_append, show i + 1 - i = 1 by omega]
  rfl
theorem drop_mid0 {u v : List Nat} {i : Nat} (h : i ≤ u.length) : (u.take i ++ v).drop i = v := by
  have hl : (u.take i).length = i := by rw [List.length_take]; omega
  rw [List.drop_append, hl, List.drop_eq_nil_of_le (by omega), List.nil_append, Nat.sub_self]
  rfl
/-- the change back leads back, and is taken back by the change -/
theorem back_ok {u : List Nat} {c : Ch5} (h : c.Ok u) (hu : ∀ a ∈ u, a ∈ abc) : (c.back u).Ok (c.app u) ∧ (c.back u).app (c.app u) = u ∧ (c.back u).back (c.app u) = c := by
  cases c with
  | put i c =>
    obtain ⟨h1, h2⟩ := h
    refine ⟨?_, ?_, ?_⟩
    · show i < (u.take i ++ c :: u.drop i).length
      simp only [List.length_append, List.length_cons, List.length_take, List.length_drop]
      omega
    · show (u.take i ++ c :: u.drop i).take i ++ (u.take i ++ c :: u.drop i).drop (i + 1) = u
      rw [take_mid h1, drop_mid h1, List.take_append_drop]
    · show Ch5.put i ((u.take i ++ c :: u.drop i).getD i 0) = _
      rw [List.getD_eq_getElem?_getD, at_mid h1]
      rfl
  | out i =>
    have h1 : i < u.length := h
    have hm : u.getD i 0 ∈ u := List.mem_of_getElem? (getD_of h1)
    refine ⟨⟨?_, hu _ hm⟩, ?_, rfl⟩
    · show i ≤ (u.take i ++ u.drop (i + 1)).length
      simp only [List.length_append, List.length_take, List.length_drop]
      omega
    · show (u.take i ++ u.drop (i + 1)).take i ++ u.getD i 0 :: (u.take i ++ u.drop (i + 1)).drop i = u
      rw [take_mid (by omega), drop_mid0 (by omega), mid h1]
  | swap i c =>
    obtain ⟨h1, h2, h3⟩ := h
    have hm : u.getD i 0 ∈ u := List.mem_of_getElem? (getD_of h1)
    refine ⟨⟨?_, hu _ hm, ?_⟩, ?_, ?_⟩
    · show i < (u.take i ++ c :: u.drop (i + 1)).length
      simp only [List.length_append, List.length_cons, List.length_take, List.length_drop]
      omega
    · show (u.take i ++ c :: u.drop (i + 1))[i]? ≠ _
      rw [at_mid (by omega)]
      exact fun e => h3 (by rw [getD_of h1, Option.some.inj e])
    · show (u.take i ++ c :: u.drop (i + 1)).take i ++ u.getD i 0 :: (u.take i ++ c :: u.drop (i + 1)).drop (i + 1) = u
      rw [take_mid (by omega), drop_mid (by omega), mid h1]
    · show Ch5.swap i ((u.take i ++ c :: u.drop (i + 1)).getD i 0) = _
      rw [List.getD_eq_getElem?_getD, at_mid (by omega)]
      rfl
end Ch5
/-! ### rows of changes -/
def okRow : List Nat → List Ch5 → Prop
  | _, [] => True
  | u, c :: cs => c.Ok u ∧ okRow (c.app u) cs
def lastW : List Nat → List Ch5 → List Nat
  | u, [] => u
  | u, c :: cs => lastW (c.app u) cs
def along : List Nat → List Ch5 → List (List Nat)
  | u, [] => [u]
  | u, c :: cs => u :: along (c.app u) cs
def backs : List Nat → List Ch5 → List Ch5
  | _, [] => []
  | u, c :: cs => c.back u :: backs (c.app u) cs
def wayBack (u : List Nat) (cs : List Ch5) : List Ch5 := (backs u cs).reverse
theorem okRow_app : ∀ {u : List Nat} {a b : List Ch5}, okRow u (a ++ b) ↔ okRow u a ∧ okRow (lastW u a) b
  | u, [], b => ⟨fun h => ⟨trivial, h⟩, fun h => h.2⟩
  | u, c :: a, b => by
    show (c.Ok u ∧ okRow (c.app u) (a ++ b)) ↔ (c.Ok u ∧ okRow (c.app u) a) ∧ okRow (lastW (c.app u) a) b
    rw [okRow_app, and_assoc]
theorem lastW_app : ∀ {u : List Nat} {a b : List Ch5}, lastW u (a ++ b) = lastW (lastW u a) b
  | u, [], b => rfl
  | u, c :: a, b => lastW_app (u := c.app u)
theorem backs_app : ∀ {u : List Nat} {a b : List Ch5}, backs u (a ++ b) = backs u a ++ backs (lastW u a) b
  | u, [], b => rfl
  | u, c :: a, b => by
    show c.back u :: backs (c.app u) (a ++ b) = _
    rw [backs_app]
    rfl
theorem backs_len : ∀ {u : List Nat} {cs : List Ch5}, (backs u cs).length = cs.length
  | u, [] => rfl
  | u, c :: cs => by
    show (backs (c.app u) cs).length + 1 = cs.length + 1
    rw [backs_len]
theorem along_app1 : ∀ {u : List Nat} {a : List Ch5} {c : Ch5}, along u (a ++ [c]) = along u a ++ [c.app (lastW u a)]
  | u, [], c => rfl
  | u, d :: a, c => by
    show u :: along (d.app u) (a ++ [c]) = _
    rw [along_app1]
    rfl
theorem along_len : ∀ {u : List Nat} {cs : List Ch5}, (along u cs).length = cs.length + 1
  | u, [] => rfl
  | u, c :: cs => by
    show (along (c.app u) cs).length + 1 = cs.length + 1 + 1
    rw [along_len]
theorem along_last : ∀ {u : List Nat} {cs : List Ch5}, (along u cs)[cs.length]? = some (lastW u cs)
  | u, [] => rfl
  | u, c :: cs => along_last (u := c.app u) (cs := cs)
theorem along_at : ∀ {u : List Nat} {cs : List Ch5} {i : Nat}, i ≤ cs.length → (along u cs)[i]? = some (lastW u (cs.take i))
  | u, [], 0, _ => rfl
  | u, c :: cs, 0, _ => rfl
  | u, c :: cs, i + 1, h => along_at (u := c.app u) (cs := cs) (i := i) (by simpa using h)
theorem backs_at : ∀ {u : List Nat} {cs : List Ch5} {i : Nat} {c : Ch5}, cs[i]? = some c → (backs u cs)[i]? = some (c.back (lastW u (cs.take i)))
  | u, [], i, c, h => by cases h
  | u, d :: cs, 0, c, h => by cases h; rfl
  | u, d :: cs, i + 1, c, h => backs_at (u := d.app u) (cs := cs) (i := i) h
theorem okRow_at : ∀ {u : List Nat} {cs : List Ch5} {i : Nat} {c : Ch5}, okRow u cs → cs[i]? = some c → c.Ok (lastW u (cs.take i))
  | u, [], i, c, _, h => by cases h
  | u, d :: cs, 0, c, ok, h => by cases h; exact ok.1
  | u, d :: cs, i + 1, c, ok, h => okRow_at (u := d.app u) (cs := cs) (i := i) ok.2 h
theorem lastW_sg : ∀ {u : List Nat} {cs : List Ch5}, okRow u cs → (∀ a ∈ u, a ∈ abc) → ∀ a ∈ lastW u cs, a ∈ abc
  | u, [], _, hu => hu
  | u, c :: cs, ok, hu => lastW_sg (u := c.app u) (cs := cs) ok.2 (Ch5.app_sg ok.1 hu)
theorem lastW_len : ∀ {u : List Nat} {cs : List Ch5}, okRow u cs → (lastW u cs).length ≤ u.length + cs.length
  | u, [], _ => Nat.le_refl _
  | u, c :: cs, ok => by
    have h1 := lastW_len ok.2
    have h2 := Ch5.app_len ok.1
    show (lastW (c.app u) cs).length ≤ u.length + (cs.length + 1)
    omega
/-- the row back leads back, and its row back is the row -/
theorem wayBack_ok : ∀ {u : List Nat} {cs : List Ch5}, okRow u cs → (∀ a ∈ u, a ∈ abc) → okRow (lastW u cs) (wayBack u cs) ∧ lastW (lastW u cs) (wayBack u cs) = u ∧ wayBack (lastW u cs) (wayBack u cs) = cs
  | u, [], _, _ => ⟨trivial, rfl, rfl⟩
  | u, c :: cs, ok, hu => by
    obtain ⟨b1, b2, b3⟩ := Ch5.back_ok ok.1 hu
    obtain ⟨i1, i2, i3⟩ := wayBack_ok ok.2 (Ch5.app_sg ok.1 hu)
    have e : wayBack u (c :: cs) = wayBack (c.app u) cs ++ [c.back u] := by
      show (c.back u :: backs (c.app u) cs).reverse = _
      rw [List.reverse_cons]
      rfl
    have l : lastW u (c :: cs) = lastW (c.app u) cs := rfl
    rw [e, l]
    refine ⟨okRow_app.mpr ⟨i1, ?_⟩, ?_, ?_⟩
    · rw [i2]
      exact ⟨b1, trivial⟩
    · rw [lastW_app, i2]
      exact b2
    · show (backs _ (_ ++ _)).reverse = _
      rw [backs_app, i2, List.reverse_append]
      show [(c.back u).back (c.app u)] ++ wayBack (lastW (c.app u) cs) (wayBack (c.app u) cs) = _
      rw [b3, i3]
      rfl
/-- of a prefix of changes the next one is known -/
theorem dats_pre {u : List Nat} {cs cs' : List Ch5} {ds : List PyData} {k : Nat} (h : cs.map Ch5.dat = ds.take k) (h' : cs'.map Ch5.dat = ds) : cs = cs'.take k := by
  have e : cs.map Ch5.dat = (cs'.take k).map Ch5.dat := by rw [List.map_take, h', h]
  exact (List.map_inj_right fun _ _ h => Ch5.dat_inj h).mp e
end MN
/-! changes of words: is_place, made_by -/
namespace MN
open PySem PySem.Spec PyProof.Rows L2
theorem cutTo5 (u : List Nat) {k : Nat} (h : k ≤ u.length) : cutS (wS u) none (some (k : Int)) = wS (u.take k) := by
  unfold cutS
  rw [HT.sIx_none, HT.sIx_nat, wS_len, wS_cps, Nat.min_eq_left h]
  rfl
theorem cutFrom5 (u : List Nat) {k : Nat} (h : k ≤ u.length) : cutS (wS u) (some (k : Int)) none = wS (u.drop k) := by
  unfold cutS
  rw [HT.sIx_none, HT.sIx_nat, wS_len, wS_cps, Nat.min_eq_left h, List.take_of_length_le (by simp)]
  rfl
theorem cutBehind5 (u : List Nat) {k : Nat} (h : k < u.length) : cutS (wS u) (some ((k : Int) + 1)) none = wS (u.drop (k + 1)) := cutFrom5 u (k := k + 1) h
theorem cutS_le {z : Str} {lo hi : Option Int} : (cutS z lo hi).length ≤ z.length := cutS_length z lo hi
def placeD (d : PyData) (n : Int) : Bool := match d with
  | .int i => decide (0 ≤ i) && decide (i < n)
  | _ => false
def signD (d : PyData) : Bool := match d with
  | .str z => isSign (.str z)
  | _ => false
theorem place_yes {d : PyData} {n : Int} (h : placeD d n = true) : ∃ i : Nat, d = .int ((i : Nat) : Int) ∧ ((i : Nat) : Int) < n := by
  cases d with
  | int i =>
    simp only [placeD, Bool.and_eq_true, decide_eq_true_eq] at h
    exact ⟨i.toNat, by rw [Int.toNat_of_nonneg h.1], by rw [Int.toNat_of_nonneg h.1]; exact h.2⟩
  | _ => cases h
theorem place_of {i : Nat} {n : Int} (h : ((i : Nat) : Int) < n) : placeD (.int ((i : Nat) : Int)) n = true := by
  simp only [placeD, Bool.and_eq_true, decide_eq_true_eq]
  exact ⟨by omega, h⟩
theorem sign_yes {d : PyData} (h : signD d = true) : ∃ c ∈ abc, d = .str (sgS c) := by
  cases d with
  | str z =>
    have h' : (decide (z.length = 1) && isWordS z) = true := h
    rw [Bool.and_eq_true, decide_eq_true_eq] at h'
    obtain ⟨c, rfl⟩ := str_one h'.1
    have := List.all_eq_true.mp h'.2 c (by simp)
    exact ⟨c, of_decide_eq_true this, rfl⟩
  | _ => cases h
theorem sign_of {c : Nat} (h : c ∈ abc) : signD (.str (sgS c)) = true := isSign_one ⟨c, h, rfl⟩
theorem eqv_str {d : PyData} {z : Str} : PyData.eqv d (.str z) = true → d = .str z := fun h => by
  cases d <;> simp [PyData.eqv] at h
  rw [h]
theorem eqv_str_no {d : PyData} {z : Str} (h : PyData.eqv d (.str z) = false) : d ≠ .str z := fun e => by
  subst e
  simp [PyData.eqv] at h
section
variable {u : List Nat} {d0 d1 d2 : PyData}
theorem no_put (h : (placeD d1 (((u.length : Nat) : Int) + 1) && signD d2) = false) : ∀ c : Ch5, c.Ok u → PyData.tuple [.str "put", d1, d2] ≠ c.dat := fun c hc e => by
  cases c with
  | put i c =>
    simp only [Ch5.dat, PyData.tuple.injEq, List.cons.injEq, and_true, true_and] at e
    obtain ⟨rfl, rfl⟩ := e
    have h1 : i ≤ u.length := hc.1
    rw [place_of (by omega), sign_of hc.2] at h
    cases h
  | out i => simp [Ch5.dat] at e
  | swap i c =>
    simp only [Ch5.dat, PyData.tuple.injEq, List.cons.injEq, PyData.str.injEq] at e
    exact absurd e.1 (by decide)
theorem no_out (h : placeD d1 ((u.length : Nat) : Int) = false) : ∀ c : Ch5, c.Ok u → PyData.tuple [.str "out", d1] ≠ c.dat := fun c hc e => by
  cases c with
  | out i =>
    simp only [Ch5.dat, PyData.tuple.injEq, List.cons.injEq, and_true, true_and] at e
    subst e
    have h1 : i < u.length := hc
    rw [place_of (by omega)] at h
    cases h
  | put i c => simp [Ch5.dat] at e
  | swap i c => simp [Ch5.dat] at e
theorem no_swap (h : ∀ (i : Nat) (c : Nat), d1 = .int ((i : Nat) : Int) → d2 = .str (sgS c) → ¬ (Ch5.swap i c).Ok u) : ∀ c : Ch5, c.Ok u → PyData.tuple [.str "swap", d1, d2] ≠ c.dat := fun c hc e => by
  cases c with
  | swap i c =>
    simp only [Ch5.dat, PyData.tuple.injEq, List.cons.injEq, and_true, true_and] at e
    exact h i c e.1 e.2 hc
  | out i => simp [Ch5.dat] at e
  | put i c =>
    simp only [Ch5.dat, PyData.tuple.injEq, List.cons.injEq, PyData.str.injEq] at e
    exact absurd e.1 (by decide)
theorem no_3 (h1 : d0 ≠ .str "put") (h2 : d0 ≠ .str "swap") : ∀ c : Ch5, c.Ok u → PyData.tuple [d0, d1, d2] ≠ c.dat := fun c hc e => by
  cases c <;> simp only [Ch5.dat, PyData.tuple.injEq, List.cons.injEq, reduceCtorEq, and_false] at e
  · exact h1 e.1
  · exact h2 e.1
theorem no_2 (h1 : d0 ≠ .str "out") : ∀ c : Ch5, c.Ok u → PyData.tuple [d0, d1] ≠ c.dat := fun c hc e => by
  cases c <;> simp only [Ch5.dat, PyData.tuple.injEq, List.cons.injEq, reduceCtorEq, and_false] at e
  exact h1 e.1
theorem no_len {ds : List PyData} (h2 : ds.length ≠ 2) (h3 : ds.length ≠ 3) : ∀ c : Ch5, c.Ok u → PyData.tuple ds ≠ c.dat := fun c hc e => by
  cases c <;> simp only [Ch5.dat, PyData.tuple.injEq] at e <;> subst e
  · exact h3 rfl
  · exact h2 rfl
  · exact h3 rfl
theorem no_tup {d : PyData} (h : isTD d = false) : ∀ c : Ch5, c.Ok u → d ≠ c.dat := fun c hc e => by
  subst e
  cases c <;> cases h
end
theorem sb_item {n w : Nat} {ds : List PyData} (h : Sb n w (.tuple ds)) : ∀ d ∈ ds, Sb n w d := by
  obtain ⟨h1, h2, h3, h4, h5, h6⟩ := h
  rw [PyData.depth] at h1
  rw [PyData.weight] at h2
  rw [PyData.showable] at h3
  rw [PyData.hasDict] at h4
  rw [PyData.canLay0] at h5
  rw [PyData.intsShort] at h6
  induction ds with
  | nil => intro d hd; cases hd
  | cons a l ih =>
    rw [PyData.depthAll] at h1
    rw [PyData.weightAll] at h2
    rw [PyData.showableAll, Bool.and_eq_true] at h3
    rw [PyData.hasDictAll, Bool.or_eq_false_iff] at h4
    rw [PyData.canLayAll0, Bool.and_eq_true] at h5
    rw [PyData.intsShortAll, Bool.and_eq_true] at h6
    intro d hd
    rcases List.mem_cons.mp hd with rfl | hd
    · exact ⟨by omega, by omega, h3.1, h4.1, h5.1, h6.1⟩
    · exact ih (by omega) (by omega) h3.2 h4.2 h5.2 h6.2 d hd
theorem sb_valOk {K : PySem.W.Frag} {H : Hp} {v : V} {d : PyData} {n w : Nat} (h : Dp K H v d) (b : Sb n w d) (hw : w ≤ 100000) : ValOk K H v := dp_valOk h fun z e => by
  subst e
  have := b.wt
  rw [PyData.weight] at this
  exact Nat.le_trans this hw
section
variable {P : Program} {w : World} {K : PySem.W.Frag} {mg : Str → Option Value} {base : Heap}
theorem dp_sign {H : Hp} {v : V} {d : PyData} (h : Dp K H v d) : isSign v = signD d := by
  cases h <;> rfl
def spPlace (K : PySem.W.Frag) : Sp := fun vs H Q _ => ∃ v d n, vs = [v, .int n] ∧ Dp K H v d ∧ 0 ≤ n ∧ n ≤ 100000 ∧ Q (.bl (placeD d n)) H
theorem sc_is_place : FnScope ["value", "many"] ["value", "many"] (defScope (top 24)) := ⟨rfl, rfl, rfl, by decide +kernel, rfl, by decide +kernel, by decide +kernel⟩
theorem c_is_place (A : At K mg "is_place" (top 24)) (c_is_integer : Cal P w K mg base 1 "is_integer" (spIsInt K)) : Cal P w K mg base 2 "is_place" (spPlace K) := by
  refine cal_of A sc_is_place (fun _ _ _ _ _ _ us hl => match us, hl with | [_, _], _ => rfl) (fun vs H Q E h => ?_) (fun f cdv A outer s H vs Q E hr h => ?_)
  · obtain ⟨_, _, _, rfl, _⟩ := h; rfl
  · obtain ⟨v, d, n, rfl, hd, h0, h1, hQ⟩ := h
    refine ⟨_, (pss_one (ps_ret (pe_and (pe_c c_is_integer hr (by decide) (by rfl) (pa_cons (pv 0) pa_nil)) (pe_one (pe_chain op_le op_lt pe_int (pv 0) (pv 1)))))), ?_⟩
    refine ⟨_, rfl, _, rfl, ?_⟩
    cases hd with
    | int i =>
      refine .inl ⟨i, rfl, _, rfl, ?_⟩
      cases hn : isInt i with
      | false =>
        have : placeD (.int i) n = false := by
          by_cases h2 : 0 ≤ i ∧ i < n
          · rw [isInt_of (by omega) (by omega)] at hn
            cases hn
          · simp only [placeD, Bool.and_eq_false_iff, decide_eq_false_iff_not]
            omega
        rw [this] at hQ
        exact iteF hQ
      | true =>
        refine iteT ⟨_, rfl, _, _, rfl, rfl, _, rfl, ?_⟩
        by_cases h1 : 0 ≤ i
        · rw [decide_eq_true h1]
          refine iteT ⟨_, rfl, _, _, rfl, rfl, ?_⟩
          simp only [placeD, decide_eq_true h1, Bool.true_and] at hQ
          exact hQ
        · rw [decide_eq_false h1]
          simp only [placeD, decide_eq_false h1, Bool.false_and] at hQ
          exact iteF hQ
    | bl b => exact .inr (.inl ⟨b, rfl, _, rfl, iteF hQ⟩)
    | non => exact .inr (.inr ⟨dp_isX (t := "NoneType") Dp.non rfl (by decide +kernel), _, rfl, iteF hQ⟩)
    | str z => exact .inr (.inr ⟨dp_isX (t := "str") (Dp.str z) rfl (by decide +kernel), _, rfl, iteF hQ⟩)
    | lst h1 h2 => exact .inr (.inr ⟨dp_isX (t := "list") (Dp.lst h1 h2) rfl (by decide +kernel), _, rfl, iteF hQ⟩)
    | tup h1 h2 => exact .inr (.inr ⟨dp_isX (t := "tuple") (Dp.tup h1 h2) rfl (by decide +kernel), _, rfl, iteF hQ⟩)
end
end MN
/-! made_by: a change is made, or it cannot be made -/
namespace MN
open PySem PySem.Spec PyProof.Rows L2
section
variable {K : PySem.W.Frag} {H : Hp} {a : Addr} {x0 x1 x2 : V} {d0 : PyData} {z : Str} {i j : Nat} {tb : TS} {tr : V → TS} {D : Ends} {σ : L2.St}
theorem case3 (ha : SqT K H a [x0, x1, x2]) (h0 : Dp K H x0 d0) (s0 : SeqAt.shaped d0 = true) (hy : d0 = .str z → tb D ((σ.set i (some x1)).set j (some x2)) H) (hn : d0 ≠ .str z → tr (.ref a) D σ H) : tCaseS K [.val z, .cap i, .cap j] tb tr (.ref a) D σ H :=
  ⟨a, _, rfl, ha, fun _ => ⟨d0, h0, s0, fun e => iteT (A := tb D ((σ.set i (some x1)).set j (some x2)) H) (B := tr (.ref a) D σ H) (hy (eqv_str e)), fun e => iteF (A := tb D ((σ.set i (some x1)).set j (some x2)) H) (B := tr (.ref a) D σ H) (hn (eqv_str_no e))⟩, fun e => absurd rfl e⟩
theorem case2 (ha : SqT K H a [x0, x1]) (h0 : Dp K H x0 d0) (s0 : SeqAt.shaped d0 = true) (hy : d0 = .str z → tb D (σ.set i (some x1)) H) (hn : d0 ≠ .str z → tr (.ref a) D σ H) : tCaseS K [.val z, .cap i] tb tr (.ref a) D σ H :=
  ⟨a, _, rfl, ha, fun _ => ⟨d0, h0, s0, fun e => iteT (A := tb D (σ.set i (some x1)) H) (B := tr (.ref a) D σ H) (hy (eqv_str e)), fun e => iteF (A := tb D (σ.set i (some x1)) H) (B := tr (.ref a) D σ H) (hn (eqv_str_no e))⟩, fun e => absurd rfl e⟩
theorem case_miss {es : List EPt} {xs : List V} (ha : SqT K H a xs) (hl : xs.length ≠ es.length) (h : tr (.ref a) D σ H) : tCaseS K es tb tr (.ref a) D σ H := ⟨a, xs, rfl, ha, fun e => absurd e hl, fun _ => h⟩
end
section
variable {P : Program} {w : World} {K : PySem.W.Frag} {mg : Str → Option Value} {base : Heap}
def spMade5 (K : PySem.W.Frag) : Sp := fun vs H Q _ => ∃ u v d, vs = [.str (wS u), v] ∧ u.length ≤ 5000 ∧ Dp K H v d ∧ Sb 9 50000 d ∧ (∀ c : Ch5, c.Ok u → d = c.dat → ∀ H', Same H H' → Q (.str (wS (c.app u))) H') ∧ ((∀ c : Ch5, c.Ok u → d ≠ c.dat) → ∀ H', Same H H' → Q .non H')
abbrev N_made_by : List Str := ["word", "change", "i", "sign", "is_fit"]
theorem sc_made_by : FnScope N_made_by ["word", "change"] (defScope (top 25)) := ⟨rfl, rfl, rfl, by decide +kernel, rfl, by decide +kernel, by decide +kernel⟩
theorem c_made_by (A : At K mg "made_by" (top 25)) (B : Blt mg) (c_is_place : Cal P w K mg base 2 "is_place" (spPlace K)) (c_is_sign : Cal P w K mg base 1 "is_sign" (spIsSign K)) : Cal P w K mg base 3 "made_by" (spMade5 K) := by
  refine cal_of A sc_made_by (fun _ _ _ _ _ _ us hl => match us, hl with | [_, _], _ => rfl) (fun vs H Q E h => ?_) (fun f cdv A outer s H vs Q E hr h => ?_)
  · obtain ⟨_, _, _, rfl, _⟩ := h; rfl
  · obtain ⟨u, v, d, rfl, lu, hd, sb, hY, hN⟩ := h
    refine ⟨_, (pss_cons (ps_if (pt_not (pt_val (pe_callB call_isS (by rfl) B.isinstance (by decide +kernel) (pa_cons (pv 1) (pa_cons (pe_bltn (v := .ty "tuple") (by rfl) B.tuple (by decide +kernel) rfl) pa_nil))))) (pss_one (ps_ret pe_non)) pss_nil)
      (pss_one (ps_match (pv 1) (pcs_seq (K := K) rfl hr.units rfl sc_made_by.nd (.cons (.val (by decide +kernel)) (.cons (.cap (i := 2) rfl (Or.inl rfl) (.inl rfl)) (.cons (.cap (i := 3) rfl (Or.inl rfl) (.inl rfl)) .nil)))
        (pss_one (ps_ret (pe_ifExp (PW.pt (pw_and (pt_val (pe_c c_is_place hr (by decide) (by rfl) (pa_cons (pv 2) (pa_cons (pe_op op_add (pe_callB call_len_str (by rfl) B.len (by decide +kernel) (pa_cons (pv 0) pa_nil)) pe_int) pa_nil)))) (pw_and1 (pt_val (pe_c c_is_sign hr (by decide) (by rfl) (pa_cons (pv 3) pa_nil)))))) (pe_op op_add_str (pe_op op_add_str (pe_slice sl_str (pv 0) po_none (po_some (pv 2))) (pv 3)) (pe_slice sl_str (pv 0) (po_some (pv 2)) po_none)) pe_non)))
        (pcs_seq (K := K) rfl hr.units rfl sc_made_by.nd (.cons (.val (by decide +kernel)) (.cons (.cap (i := 2) rfl (Or.inl rfl) (.inl rfl)) .nil))
        (pss_one (ps_ret (pe_ifExp (pt_val (pe_c c_is_place hr (by decide) (by rfl) (pa_cons (pv 2) (pa_cons (pe_callB call_len_str (by rfl) B.len (by decide +kernel) (pa_cons (pv 0) pa_nil)) pa_nil)))) (pe_op op_add_str (pe_slice sl_str (pv 0) po_none (po_some (pv 2))) (pe_slice sl_str (pv 0) (po_some (pe_op op_add (pv 2) pe_int)) po_none)) pe_non)))
        (pcs_seq (K := K) rfl hr.units rfl sc_made_by.nd (.cons (.val (by decide +kernel)) (.cons (.cap (i := 2) rfl (Or.inl rfl) (.inl rfl)) (.cons (.cap (i := 3) rfl (Or.inl rfl) (.inl rfl)) .nil)))
        (pss_cons (ps_set (i := 4) sc_made_by.nd rfl (Or.inl rfl) (pe_and (pe_c c_is_place hr (by decide) (by rfl) (pa_cons (pv 2) (pa_cons (pe_callB call_len_str (by rfl) B.len (by decide +kernel) (pa_cons (pv 0) pa_nil)) pa_nil))) (pe_and (pe_c c_is_sign hr (by decide) (by rfl) (pa_cons (pv 3) pa_nil)) (pe_one (pe_cmpR op_ne (pv 3) (pe_ix ix_str (pv 0) (pv 2) (fun _ _ => rfl)) (nomark _))))))
      (pss_one (ps_ret (pe_ifExp (pt_val (pv 4)) (pe_op op_add_str (pe_op op_add_str (pe_slice sl_str (pv 0) po_none (po_some (pv 2))) (pv 3)) (pe_slice sl_str (pv 0) (po_some (pe_op op_add (pv 2) pe_int)) po_none)) pe_non))))
        (pcs_any (pss_one (ps_ret pe_non))))))))), ?_⟩
    have big : 100000 < sizeLine := by decide
    have lw : (wS u).length = u.length := wS_len u
    have lc : ∀ lo hi, (cutS (wS u) lo hi).length ≤ 5000 := fun lo hi => Nat.le_trans cutS_le (by omega)
    refine ⟨_, rfl, v, "tuple", isTD d, rfl, dp_isT hd, _, rfl, ?_⟩
    cases hi : isTD d with
    | false => exact iteT (hN (no_tup hi) H (Same.refl _))
    | true =>
    refine iteF ?_
    cases hd with
    | non => cases hi
    | bl b => cases hi
    | int i => cases hi
    | str z => cases hi
    | lst h1 h2 => cases hi
    | @tup a xs ds ha hds =>
    have sbi := sb_item sb
    have shi : ∀ d ∈ ds, SeqAt.shaped d = true := fun d hd => (sbi d hd).shaped (by decide)
    have hl := dpa_len hds
    refine ⟨_, rfl, ?_⟩
    match ds, xs, hds, hl with
    | [d0, d1, d2], [x0, x1, x2], .cons h0 (.cons h1 (.cons h2 .nil)), _ =>
      have s0 := shi d0 (by simp)
      have vo2 : ValOk K H x2 := sb_valOk h2 (sbi d2 (by simp)) (by decide)
      refine case3 ha h0 s0 (fun e0 => ?_) (fun e0 => case_miss ha (by simp) (case3 ha h0 s0 (fun e1 => ?_) (fun e1 => hN (no_3 e0 e1) H (Same.refl _))))
      · subst e0
        refine ⟨_, rfl, _, rfl, wS u, rfl, by omega, _, _, rfl, rfl, x1, d1, _, rfl, h1, by omega, by omega, _, rfl, ?_⟩
        cases hp : placeD d1 (((wS u).length : Int) + 1) with
        | false =>
          refine iteF (iteF (hN (no_put ?_) H (Same.refl _)))
          rw [← lw, hp]
          rfl
        | true =>
          refine iteT ⟨_, rfl, x2, rfl, vo2, _, rfl, ?_⟩
          rw [dp_sign h2]
          cases hs : signD d2 with
          | false =>
            refine iteF (hN (no_put ?_) H (Same.refl _))
            rw [hs, Bool.and_false]
          | true =>
            refine iteT ?_
            obtain ⟨i, rfl, li⟩ := place_yes hp
            obtain ⟨c, hc, rfl⟩ := sign_yes hs
            cases h1
            cases h2
            rw [lw] at li
            have li' : i ≤ u.length := by omega
            have l1 : (cutS (wS u) none (some (i : Int)) ++ sgS c : Str).length ≤ 5001 := by
              rw [strLen_append]
              have := lc none (some (i : Int))
              show _ + 1 ≤ _
              omega
            refine ⟨_, rfl, _, rfl, _, rfl, _, rfl, by omega, _, rfl, _, _, rfl, rfl, ?_, _, rfl, _, rfl, _, rfl, _, rfl, by omega, _, _, rfl, rfl, ?_, ?_⟩
            · rw [← strLen_append]
              omega
            · have := lc (some (i : Int)) none
              omega
            · rw [cutTo5 u li', cutFrom5 u li']
              have e : (wS (u.take i) ++ sgS c ++ wS (u.drop i) : Str) = wS ((Ch5.put i c).app u) := by
                rw [show sgS c = wS [c] from rfl, wS_app, wS_app, List.append_assoc]
                rfl
              rw [e]
              exact hY (.put i c) ⟨li', hc⟩ rfl H (Same.refl _)
      · subst e1
        refine ⟨_, rfl, _, rfl, wS u, rfl, by omega, x1, d1, _, rfl, h1, by omega, by omega, _, rfl, ?_⟩
        have nope : (∀ (i : Nat) (c : Nat), d1 = .int ((i : Nat) : Int) → d2 = .str (sgS c) → ¬ (Ch5.swap i c).Ok u) → Q .non H := fun h => hN (no_swap h) H (Same.refl _)
        cases hp : placeD d1 ((wS u).length : Int) with
        | false =>
          refine iteF ⟨_, rfl, _, rfl, iteF (nope fun i c e _ ok => ?_)⟩
          subst e
          have : i < u.length := ok.1
          rw [place_of (by omega)] at hp
          cases hp
        | true =>
          refine iteT ⟨_, rfl, x2, rfl, vo2, _, rfl, ?_⟩
          rw [dp_sign h2]
          cases hs : signD d2 with
          | false =>
            refine iteF ⟨_, rfl, _, rfl, iteF (nope fun i c _ e ok => ?_)⟩
            subst e
            rw [sign_of ok.2.1] at hs
            cases hs
          | true =>
            obtain ⟨i, rfl, li⟩ := place_yes hp
            obtain ⟨c, hc, rfl⟩ := sign_yes hs
            cases h1
            cases h2
            rw [lw] at li
            have li' : i < u.length := by omega
            have gi := List.getElem?_eq_getElem li'
            refine iteT ⟨_, rfl, _, rfl, _, rfl, wS u, _, u[i], rfl, rfl, by omega, atI_nat gi, rfl, _, rfl, _, rfl, ?_⟩
            by_cases hne : u[i] = c
            · rw [show (!decide (V.str (sgS c) = V.str ⟨#[u[i]]⟩)) = false by rw [hne]; simp [sgS]]
              refine iteF (nope fun i' c' e1 e2 ok => ?_)
              have ei : i = i' := by injection e1 with e1; omega
              have ec : c = c' := by injection e2 with e2; exact congrArg codeOf e2
              subst ei ec
              exact ok.2.2 (by rw [gi, hne])
            · rw [show (!decide (V.str (sgS c) = V.str ⟨#[u[i]]⟩)) = true by
                rw [decide_eq_false fun e => hne (by injection e with e; exact (congrArg codeOf e).symm)]
                rfl]
              refine iteT ?_
              have l1 : (cutS (wS u) none (some (i : Int)) ++ sgS c : Str).length ≤ 5001 := by
                rw [strLen_append]
                have := lc none (some (i : Int))
                show _ + 1 ≤ _
                omega
              refine ⟨_, rfl, _, rfl, _, rfl, _, rfl, by omega, _, rfl, _, _, rfl, rfl, ?_, _, rfl, _, rfl, _, _, rfl, rfl, _, rfl, _, rfl, by omega, _, _, rfl, rfl, ?_, ?_⟩
              · rw [← strLen_append]
                omega
              · have := lc (some ((i : Int) + 1)) none
                omega
              · rw [cutTo5 u (by omega), cutBehind5 u li']
                have e : (wS (u.take i) ++ sgS c ++ wS (u.drop (i + 1)) : Str) = wS ((Ch5.swap i c).app u) := by
                  rw [show sgS c = wS [c] from rfl, wS_app, wS_app, List.append_assoc]
                  rfl
                rw [e]
                exact hY (.swap i c) ⟨li', hc, by rw [gi]; exact fun z => hne (Option.some.inj z)⟩ rfl H (Same.refl _)
    | [d0, d1], [x0, x1], .cons h0 (.cons h1 .nil), _ =>
      refine case_miss ha (by simp) (case2 ha h0 (shi d0 (by simp)) (fun e0 => ?_) (fun e0 => case_miss ha (by simp) (hN (no_2 e0) H (Same.refl _))))
      subst e0
      refine ⟨_, rfl, _, rfl, wS u, rfl, by omega, x1, d1, _, rfl, h1, by omega, by omega, _, rfl, ?_⟩
      cases hp : placeD d1 ((wS u).length : Int) with
      | false =>
        refine iteF (hN (no_out ?_) H (Same.refl _))
        rw [← lw]
        exact hp
      | true =>
        refine iteT ?_
        obtain ⟨i, rfl, li⟩ := place_yes hp
        cases h1
        rw [lw] at li
        have li' : i < u.length := by omega
        refine ⟨_, rfl, _, rfl, _, rfl, _, rfl, by omega, _, rfl, _, rfl, _, _, rfl, rfl, _, rfl, _, rfl, by omega, _, _, rfl, rfl, ?_, ?_⟩
        · have := lc none (some (i : Int))
          have := lc (some ((i : Int) + 1)) none
          omega
        · rw [cutTo5 u (by omega), cutBehind5 u li', wS_app]
          exact hY (.out i) li' rfl H (Same.refl _)
    | [], [], .nil, _ => exact case_miss ha (by simp) (case_miss ha (by simp) (case_miss ha (by simp) (hN (no_len (by simp) (by simp)) H (Same.refl _))))
    | [d0], [x0], _, _ => exact case_miss ha (by simp) (case_miss ha (by simp) (case_miss ha (by simp) (hN (no_len (by simp) (by simp)) H (Same.refl _))))
    | d0 :: d1 :: d2 :: d3 :: ds, x0 :: x1 :: x2 :: x3 :: xs, _, _ => exact case_miss ha (by simp) (case_miss ha (by simp) (case_miss ha (by simp) (hN (no_len (by simp) (by simp)) H (Same.refl _))))
end
end MN
/-! own exceptions without __init__ -/
namespace MN
open PySem PySem.Spec PyProof.Rows L2 MNE
/-- an own exception without __init__ -/
structure ErK (K : PySem.W.Frag) (mg : Str → Option Value) (x : Str) (C : Addr) : Prop where
  g : mg x = some (.ref C)
  x : PySem.W.excIn K C He.veBase "ValueError.__new__" = true
  k : PySem.W.keepIn K (.ref C) = true
  b : PySem.W.subIn K (.ref C) (.type "BaseException") = some true
  t : PySem.W.typeIn K (.ref C) = some (.type "type")
theorem erK_ok {K : PySem.W.Frag} {mg : Str → Option Value} {x : Str} (g : mg x = some (.ref (He.ga K x))) (h : (He.Fa.exc x).ok K = true) : ErK K mg x (He.ga K x) := by
  obtain ⟨a, b, c, d⟩ := He.exc_ok h
  exact ⟨g, a, b, c, d⟩
theorem pmk_k {X : Cx} {x m : Str} {C : Addr} {j : Nat} {p p2 pos : Pos} (E : ErK X.K X.mg x C) (hg : Gl X x) (hd : (x == ("__debug__" : Str)) = false := by decide) : PMk X (.Call (.Name x p) [.Constant (.str m) j p2] [] pos) (fun _ H Q => Q (.ref C) none H) :=
  pmk_own PySem.F.excBase_ValueError E.x E.g E.k (raises_own E.b E.t) hg hd
theorem ite2 {b : Bool} {A B : Prop} (h1 : b = true → A) (h2 : b = false → B) : if b = true then A else B := by
  cases b with
  | true => exact iteT (h1 rfl)
  | false => exact iteF (h2 rfl)
end MN
/-! priced; all words up to a length; slices of words -/
namespace MN
open PySem PySem.Spec PyProof.Rows L2
/-- a drawn table: the dicts of put, out and swap prices -/
structure TblAt (H : Hp) (t : Addr) (zs : List Str) (g o : Str → Int) (ps : List ((Str × Str) × Int)) (A B S : Addr) : Prop where
  t : H t = some (.lst [.ref A, .ref B, .ref S])
  a : H A = some (.dK (dkF zs g))
  b : H B = some (.dK (dkF zs o))
  s : H S = some (.dT (dtF ps))
theorem TblAt.same {H H' : Hp} {t A B S : Addr} {zs : List Str} {g o : Str → Int} {ps : List ((Str × Str) × Int)} (h : TblAt H t zs g o ps A B S) (e : Same H H') : TblAt H' t zs g o ps A B S := ⟨e _ _ h.t, e _ _ h.a, e _ _ h.b, e _ _ h.s⟩
theorem boot_list0 : bootBuiltins "list" = some (.type "list") := by decide +kernel
def wordsV (ws : List (List Nat)) : List V := ws.map fun u => V.str (wS u)
def lvlU (L : List Nat) : Nat → List (List Nat)
  | 0 => [[]]
  | n + 1 => (lvlU L n).flatMap fun u => L.map fun a => u ++ [a]
def allU (L : List Nat) (n : Nat) : List (List Nat) := (List.range (n + 1)).flatMap (lvlU L)
theorem mem_lvlU {L : List Nat} : ∀ {n : Nat} {u : List Nat}, u ∈ lvlU L n ↔ u.length = n ∧ ∀ a ∈ u, a ∈ L
  | 0, u => by
    simp only [lvlU, List.mem_singleton]
    constructor
    · rintro rfl; simp
    · rintro ⟨h, _⟩; exact List.eq_nil_of_length_eq_zero h
  | n + 1, u => by
    simp only [lvlU, List.mem_flatMap, List.mem_map]
    constructor
    · rintro ⟨v, hv, a, ha, rfl⟩
      obtain ⟨h1, h2⟩ := mem_lvlU.mp hv
      refine ⟨by simp [h1], fun b hb => ?_⟩
      rcases List.mem_append.mp hb with hb | hb
      · exact h2 b hb
      · rw [List.mem_singleton.mp hb]; exact ha
    · rintro ⟨h1, h2⟩
      have hne : u ≠ [] := fun e => by rw [e] at h1; simp at h1
      refine ⟨u.dropLast, mem_lvlU.mpr ⟨by simp [h1], fun a ha => h2 a (List.dropLast_subset _ ha)⟩, u.getLast hne, h2 _ (List.getLast_mem hne), List.dropLast_concat_getLast hne⟩
theorem mem_allU {L : List Nat} {n : Nat} {u : List Nat} : u ∈ allU L n ↔ u.length ≤ n ∧ ∀ a ∈ u, a ∈ L := by
  unfold allU
  rw [List.mem_flatMap]
  constructor
  · rintro ⟨k, hk, hu⟩
    have := List.mem_range.mp hk
    obtain ⟨h1, h2⟩ := mem_lvlU.mp hu
    exact ⟨by omega, h2⟩
  · rintro ⟨h1, h2⟩
    exact ⟨u.length, List.mem_range.mpr (by omega), mem_lvlU.mpr ⟨rfl, h2⟩⟩
theorem flatMap_const {α β : Type} {f : α → List β} {k : Nat} : ∀ {l : List α}, (∀ a ∈ l, (f a).length = k) → (l.flatMap f).length = l.length * k
  | [], _ => by simp
  | a :: l, h => by
    rw [List.flatMap_cons, List.length_append, h a List.mem_cons_self, flatMap_const fun b hb => h b (List.mem_cons_of_mem _ hb), List.length_cons, Nat.succ_mul]
    omega
theorem lvlU_len {L : List Nat} : ∀ n, (lvlU L n).length = L.length ^ n
  | 0 => rfl
  | n + 1 => by
    show ((lvlU L n).flatMap fun u => L.map fun a => u ++ [a]).length = _
    rw [flatMap_const (k := L.length) fun u _ => by simp, lvlU_len n, Nat.pow_succ]
theorem lvlU_le {L : List Nat} (h : L.length ≤ 3) {n : Nat} (hn : n ≤ 8) : (lvlU L n).length ≤ 6561 := by
  rw [lvlU_len]
  exact Nat.le_trans (Nat.pow_le_pow_left h n) (Nat.le_trans (Nat.pow_le_pow_right (by decide) hn) (by decide))
theorem allU_succ {L : List Nat} {n : Nat} : allU L (n + 1) = allU L n ++ lvlU L (n + 1) := by
  unfold allU
  rw [List.range_succ (n := n + 1), List.flatMap_append]
  simp
theorem allU_le {L : List Nat} (h : L.length ≤ 3) : ∀ {n : Nat}, n ≤ 8 → (allU L n).length ≤ (n + 1) * 6561
  | 0, _ => by simp [allU, lvlU]
  | n + 1, hn => by
    rw [allU_succ, List.length_append]
    have h1 := allU_le h (n := n) (by omega)
    have h2 := lvlU_le h hn
    omega
end MN
/-! the class Prices alone: put, out, swap, require_prices, _law_priced; its facts in the head -/
namespace MN
open PySem PySem.Spec PyProof.Rows L2
section
variable {P : Program} {w : World} {K : PySem.W.Frag} {mg : Str → Option Value} {base : Heap} {Cp Cc : Addr}
/-- the class Prices -/
structure PrP (K : PySem.W.Frag) (mg : Str → Option Value) (Cp : Addr) : Prop where
  sp : SlotC K Cp
  gp : mg "Prices" = some (.ref Cp)
  ip : ∃ f fd, Mk K Cp f ∧ FunAt K "__init__" "Prices.__init__" (inClass (top 21) 1) [] f fd
  si : SlX.SIsi K Cp
  isP : PySem.W.kitOne K (.ref Cp) (.ref Cp) = some true
  pput : ∃ p g fd, PropOf K Cp "put" p g ∧ FunAt K "put" "Prices.put" (inClass (top 21) 4) [] g fd
  pout : ∃ p g fd, PropOf K Cp "out" p g ∧ FunAt K "out" "Prices.out" (inClass (top 21) 5) [] g fd
  pswap : ∃ p g fd, PropOf K Cp "swap" p g ∧ FunAt K "swap" "Prices.swap" (inClass (top 21) 6) [] g fd
theorem f_pputP {f : Addr} {fd : FuncData} (PC : PrP K mg Cp) (F : FunAt K "put" "Prices.put" (inClass (top 21) 4) [] f fd) (B : Blt mg) : FnOk P w K mg base CX0 1 f fd ["self"] (spPut Cp) := by
  refine fnok_of F sc_pput (fun vs H Q E h => ?_) (fun cdv A outer s H vs Q E hr h => ?_)
  · obtain ⟨_, _, _, _, _, _, _, rfl, _⟩ := h; rfl
  · obtain ⟨x, dx, ys, ys2, g, o, qs, rfl, hP, N, hQ⟩ := h
    obtain ⟨p1, s1⟩ := PC.sp.s1
    refine ⟨_, pss_one (ps_ret (pe_callTy call_dictD (by rfl) B.dict (by decide +kernel) (pa_cons (SlX.pe_sl (pv 0)) pa_nil))), ?_⟩
    obtain ⟨PA, PB, PS, ws, hs, w1, w0, w2, nAB, hA, hB, hS⟩ := hP
    exact ⟨_, rfl, x, Cp, dx, p1, ws, 1, _, rfl, .inr hs, PC.sp.sc, s1, w1, PA, _, rfl, .inl hA, fun d hd => hQ d _ (same_new hd) upd_same⟩
theorem f_poutP {f : Addr} {fd : FuncData} (PC : PrP K mg Cp) (F : FunAt K "out" "Prices.out" (inClass (top 21) 5) [] f fd) (B : Blt mg) : FnOk P w K mg base CX0 1 f fd ["self"] (spOut Cp) := by
  refine fnok_of F sc_pout (fun vs H Q E h => ?_) (fun cdv A outer s H vs Q E hr h => ?_)
  · obtain ⟨_, _, _, _, _, _, _, rfl, _⟩ := h; rfl
  · obtain ⟨x, dx, ys, ys2, g, o, qs, rfl, hP, N, hQ⟩ := h
    obtain ⟨p1, s1⟩ := PC.sp.s0
    refine ⟨_, pss_one (ps_ret (pe_callTy call_dictD (by rfl) B.dict (by decide +kernel) (pa_cons (SlX.pe_sl (pv 0)) pa_nil))), ?_⟩
    obtain ⟨PA, PB, PS, ws, hs, w1, w0, w2, nAB, hA, hB, hS⟩ := hP
    exact ⟨_, rfl, x, Cp, dx, p1, ws, 0, _, rfl, .inr hs, PC.sp.sc, s1, w0, PB, _, rfl, .inl hB, fun d hd => hQ d _ (same_new hd) upd_same⟩
theorem f_pswapP {f : Addr} {fd : FuncData} (PC : PrP K mg Cp) (F : FunAt K "swap" "Prices.swap" (inClass (top 21) 6) [] f fd) (B : Blt mg) : FnOk P w K mg base CX0 1 f fd ["self"] (spSwap Cp) := by
  refine fnok_of F sc_pswap (fun vs H Q E h => ?_) (fun cdv A outer s H vs Q E hr h => ?_)
  · obtain ⟨_, _, _, _, _, _, _, rfl, _⟩ := h; rfl
  · obtain ⟨x, dx, ys, ys2, g, o, qs, rfl, hP, N, hQ⟩ := h
    obtain ⟨p2, s2⟩ := PC.sp.s2
    refine ⟨_, pss_one (ps_ret (pe_lock (pe_dp1 (own := [("pair", 1)]) (o0 := .dT []) (g := gName 1) (tt := tYes) rfl (hu_of hr) sc_pswap.nd (pi_keys (SlX.pe_sl (pv 0)))
        (blkOk_by (own := [("pair", 1)]) (N := N_pswap) (sc := defScope (inClass (top 21) 6)) (by decide +kernel)) (fun _ _ _ _ _ => (pg_name (i := 1) sc_pswap.nd rfl (Or.inl rfl))) (fun _ _ _ _ _ => pts_nil) (fun _ _ _ _ _ => pv 1) (fun _ _ _ _ _ => pe_dget (hu_of hr) (peSlK (K := K) rfl (pv 0)) (pv 1) (fun _ _ => rfl)) (.inr rfl)))), ?_⟩
    obtain ⟨PA, PB, PS, ws, hs, w1, w0, w2, nAB, hA, hB, hS⟩ := hP
    refine ⟨PS, _, hS, trivial, fun od => ?_⟩
    have xS : x ≠ PS := fun z => by
      have q := hs.1
      rw [z, hS] at q
      injection q with q
      unfold SlX.SlO at q
      cases q
    have dS : dx ≠ PS := fun z => by
      have q := hs.2
      rw [z, hS] at q
      cases q
    have S1' : Sl2 (upd H PS (.frz od (.dT (dtF qs)))) x Cp dx ws := ⟨by rw [upd_ne xS]; exact hs.1, by rw [upd_ne dS]; exact hs.2⟩
    refine ⟨_, rfl, x, Cp, dx, p2, ws, 2, _, rfl, .inr S1', PC.sp.sc, s2, w2, PS, od, rfl, .inr ⟨_, upd_same, fun T hT0 => ?_⟩⟩
    have TS : T ≠ PS := fun z => by rw [z, upd_same] at hT0; cases hT0
    refine dp_it walk_keysT (fun i H' => Same (upd H PS (.frz od (.dT (dtF qs)))) H' ∧ H' T = some (.dT (dtF (qs.take i)))) ⟨same_new hT0, by rw [List.take_zero]; exact upd_same⟩ (fun i H' _ e => e.1 _ _ upd_same) (fun i y Ha Hb hi e hy => ?_) (fun H2' e => ⟨e.1 _ _ upd_same, ?_⟩)
    · obtain ⟨rfl, k, v, b, hk, rfl, hb⟩ := hy
      obtain ⟨ea, eT⟩ := e
      unfold dtF at hk
      rw [List.getElem?_map] at hk
      obtain ⟨⟨⟨z1, z2⟩, n⟩, hz, ek⟩ := Option.map_eq_some_iff.mp hk
      cases ek
      refine ⟨rfl, yes_q (iteT ⟨_, rfl, _, rfl, x, Cp, dx, p2, ws, 2, _, rfl, slt_same ea (.inr S1'), PC.sp.sc, s2, w2, _, rfl, PS, .int n, rfl, .inr ⟨_, [.inr z1, .inr z2], b, .inr ⟨od, ea _ _ upd_same⟩, rfl, hb, (dtF_val N.sn (List.mem_of_getElem? hz)).symm⟩, _, .inr ⟨_, [.inr z1, .inr z2], b, eT, rfl, hb, ?_, rfl⟩, fun c u q => ?_, ?_⟩)⟩
      · have : 100000 < sizeLine := by decide
        have := N.sl
        simp [dtF]
        omega
      · rw [upd_ne (ne_of_none q hT0)]; exact ea _ _ q
      · rw [upd_same, dtF_put N.sn hz]
    obtain ⟨ea, eT⟩ := e
    refine hQ T _ (fun b u q => ?_) ?_
    · by_cases z : b = PS
      · rw [z, upd_same]; rw [z, hS] at q; exact q
      · rw [upd_ne z]; exact ea _ _ (by rw [upd_ne z]; exact q)
    · have : (dtF qs).length = qs.length := by simp [dtF]
      rw [upd_ne TS, eT, this, List.take_length]
/-- the properties, as they are read -/
theorem r_propsP (PC : PrP K mg Cp) (B : Blt mg) : (∃ p g, PropOf K Cp "put" p g ∧ FnR P w K mg base CX0 1 g (fun vs H Q E => spPut Cp (vs ++ []) H Q E)) ∧ (∃ p g, PropOf K Cp "out" p g ∧ FnR P w K mg base CX0 1 g (fun vs H Q E => spOut Cp (vs ++ []) H Q E)) ∧ ∃ p g, PropOf K Cp "swap" p g ∧ FnR P w K mg base CX0 1 g (fun vs H Q E => spSwap Cp (vs ++ []) H Q E) := by
  obtain ⟨p1, g1, fd1, h1, F1⟩ := PC.pput
  obtain ⟨p2, g2, fd2, h2, F2⟩ := PC.pout
  obtain ⟨p3, g3, fd3, h3, F3⟩ := PC.pswap
  have b1 := FunD.bindsN (ps := ["self"]) F1 fun _ _ _ _ _ _ us hl => match us, hl with | [_], _ => rfl
  have b2 := FunD.bindsN (ps := ["self"]) F2 fun _ _ _ _ _ _ us hl => match us, hl with | [_], _ => rfl
  have b3 := FunD.bindsN (ps := ["self"]) F3 fun _ _ _ _ _ _ us hl => match us, hl with | [_], _ => rfl
  exact ⟨⟨p1, g1, h1, (f_pputP PC F1 B).raw b1 .nil⟩, ⟨p2, g2, h2, (f_poutP PC F2 B).raw b2 .nil⟩, ⟨p3, g3, h3, (f_pswapP PC F3 B).raw b3 .nil⟩⟩
theorem c_require_pricesP (A : At K mg "require_prices" (top 22)) (B : Blt mg) (PC : PrP K mg Cp) : Cal P w K mg base 1 "require_prices" (spReqPrices Cp) := by
  refine cal_of A sc_require_prices (fun _ _ _ _ _ _ us hl => match us, hl with | [_], _ => rfl) (fun vs H Q E h => ?_) (fun _ cdv A outer s H vs Q E hr h => ?_)
  · obtain ⟨_, _, _, _, _, _, _, rfl, _⟩ := h; rfl
  · obtain ⟨x, dx, ys, ys2, g, o, qs, rfl, hP, hQ⟩ := h
    have GF : GlC mg "Prices" (.ref Cp) := ⟨_, PC.gp, rfl⟩
    refine ⟨_, pss_one (ps_if (pt_not (pt_val (pe_callB (SlX.call_isiSl (.ref Cp)) (by rfl) B.isinstance (by decide +kernel) (pa_cons (pv 0) (pa_cons (pe_gl (by rfl) GF) pa_nil))))) (pss_one ps_never) pss_nil), ?_⟩
    obtain ⟨PA, PB, PS, ws, hs, _⟩ := hP
    exact ⟨_, rfl, x, Cp, dx, ws, _, true, rfl, rfl, fun w e => e, .inr hs, PC.sp.sc, PC.si, PC.isP, _, rfl, iteF hQ⟩
/-! ### _law_priced -/
def spPricedP (Cp : Addr) : Sp := fun vs H Q _ => ∃ t A B S zs g o ps, vs = [.ref t] ∧ TblAt H t zs g o ps A B S ∧ PrN zs zs g o ps ∧
  ∀ x dx ys ys2 qs H', Same H H' → PrAt Cp H' x dx ys ys2 g o qs → PrN ys ys2 g o qs → ys.Perm zs → qs.Perm ps → Q (.ref x) H'
theorem sc_law_pricedP : FnScope ["_law_table"] ["_law_table"] (defScope (top 42)) := ⟨rfl, rfl, rfl, by decide +kernel, rfl, by decide +kernel, by decide +kernel⟩
theorem c_law_pricedP (A : At K mg "_law_priced" (top 42)) (B : Blt mg) (PC : PrP K mg Cp) (c_are_prices : Cal P w K mg base 3 "are_prices" spAreP) : Cal P w K mg base 6 "_law_priced" (spPricedP Cp) := by
  obtain ⟨fi, fdi, M, Fi⟩ := PC.ip
  refine cal_of A sc_law_pricedP (fun _ _ _ _ _ _ us hl => match us, hl with | [_], _ => rfl) (fun vs H Q E h => ?_) (fun _ cdv A outer s H vs Q E hr h => ?_)
  · obtain ⟨_, _, _, _, _, _, _, _, rfl, _⟩ := h; rfl
  · obtain ⟨t, TA, TB, TS, zs, g, o, ps, rfl, T, N, hQ⟩ := h
    refine ⟨_, pss_one (ps_ret (pe_makeKG M (f_pinit (P := P) (w := w) (mg := mg) (base := base) PC.sp Fi B c_are_prices) (hr.mono (by decide)) (by rfl) PC.gp (kb_pinit Fi) pass0
      (pk_cons (pe_callTy call_dictD (by rfl) B.dict (by decide +kernel) (pa_cons (pe_ix ix_list (pv 0) pe_int (fun _ _ => rfl)) pa_nil)) (pk_cons (pe_callTy call_dictD (by rfl) B.dict (by decide +kernel) (pa_cons (pe_ix ix_list (pv 0) pe_int (fun _ _ => rfl)) pa_nil)) (pk_cons (pe_callTy (call_dictPT rfl hr.units) (by rfl) B.dict (by decide +kernel) (pa_cons (pe_listItemsT rfl (pe_ix ix_list (pv 0) pe_int (fun _ _ => rfl)) (by rfl) B.list boot_list0) pa_nil)) pk_nil))))), ?_⟩
    refine ⟨_, rfl, t, _, _, _, rfl, rfl, SqL.of T.t, rfl, TA, _, rfl, .inl T.a, fun d1 h1 => ?_⟩
    have e1 := same_new (o := .dK (dkF zs g)) h1
    have T1 := T.same e1
    have d1a : upd H d1 (.dK (dkF zs g)) d1 = some (.dK (dkF zs g)) := upd_same
    generalize upd H d1 (.dK (dkF zs g)) = H1 at e1 T1 d1a ⊢
    refine ⟨_, rfl, t, _, _, _, rfl, rfl, SqL.of T1.t, rfl, TB, _, rfl, .inl T1.b, fun d2 h2 => ?_⟩
    have e2 := same_new (o := .dK (dkF zs o)) h2
    have T2 := T1.same e2
    have d2a : upd H1 d2 (.dK (dkF zs o)) d2 = some (.dK (dkF zs o)) := upd_same
    have d1b := e2 _ _ d1a
    have n12 : d1 ≠ d2 := ne_of_none d1a h2
    generalize upd H1 d2 (.dK (dkF zs o)) = H2 at e2 T2 d2a d1b ⊢
    refine ⟨_, rfl, t, _, _, _, rfl, rfl, SqL.of T2.t, rfl, TS, _, rfl, T2.s, fun H3 q ts e3 _ hq hpr => ⟨q, ts, _, rfl, hq, hpr, dtF_nodup N.sn, fun d3 h3 => ?_⟩⟩
    have e4 := e3.trans (same_new (o := .dT (dtF ps)) h3)
    have d3a : upd H3 d3 (.dT (dtF ps)) d3 = some (.dT (dtF ps)) := upd_same
    have d1c := e4 _ _ d1b
    have d2c := e4 _ _ d2a
    have e5 := (e1.trans e2).trans e4
    generalize upd H3 d3 (.dT (dtF ps)) = H4 at e5 d3a d1c d2c ⊢
    refine ⟨rfl, rfl, fun y dy hy hdy n => ?_⟩
    have nx : ∀ b u, H4 b = some u → b ≠ y ∧ b ≠ dy := fun b u e => ⟨ne_of_none e hy, ne_of_none e hdy⟩
    have up : ∀ b u, H4 b = some u → upd (upd H4 dy (.own y)) y (.ins Cp dy []) b = some u := fun b u e => by
      rw [upd_ne (nx b u e).1, upd_ne (nx b u e).2]; exact e
    refine ⟨y, dy, d1, d2, d3, zs, zs, g, o, ps, rfl, upd_same, by rw [upd_ne n, upd_same], n, up _ _ d1c, up _ _ d2c, up _ _ d3a, n12, N, fun H6 ys ys2 qs k2 hP2 N2 pm _ pq => ⟨rfl, hQ y dy ys ys2 qs H6 (fun b u z => ?_) hP2 N2 pm pq⟩⟩
    have z1 := e5 _ _ z
    exact k2 b u (nx _ _ z1).1 (nx _ _ z1).2 (up _ _ z1)
end
def prPB (K : PySem.W.Frag) : Bool := slotCB K (gP K) && ((He.Fa.mkr "Prices").ok K && (siB K (gP K) && (decide (PySem.W.kitOne K (.ref (gP K)) (.ref (gP K)) = some true) && (propB K (gP K) "put" && (propB K (gP K) "out" && propB K (gP K) "swap")))))
theorem prP_ok {K : PySem.W.Frag} {mg : Str → Option Value} {f1 f5 f6 f7 : FuncData} (h : prPB K = true) (gp : mg "Prices" = some (.ref (He.ga K "Prices")))
    (F1 : FunAt K "__init__" "Prices.__init__" (inClass (top 21) 1) [] (He.ma K (gP K) "__init__") f1) (F5 : FunAt K "put" "Prices.put" (inClass (top 21) 4) [] (He5.wf K (gP K) "property" "put") f5) (F6 : FunAt K "out" "Prices.out" (inClass (top 21) 5) [] (He5.wf K (gP K) "property" "out") f6) (F7 : FunAt K "swap" "Prices.swap" (inClass (top 21) 6) [] (He5.wf K (gP K) "property" "swap") f7) :
    PrP K mg (He.ga K "Prices") := by
  obtain ⟨e1, h⟩ := He.ba h
  obtain ⟨e2, h⟩ := He.ba h
  obtain ⟨e3, h⟩ := He.ba h
  obtain ⟨e4, h⟩ := He.ba h
  obtain ⟨e5, h⟩ := He.ba h
  obtain ⟨e6, e7⟩ := He.ba h
  exact ⟨slotCB_ok e1, gp, ⟨_, f1, He.mkr_ok e2, F1⟩, siB_ok e3, of_decide_eq_true e4, ⟨_, _, f5, propB_ok e5, F5⟩, ⟨_, _, f6, propB_ok e6, F6⟩, ⟨_, _, f7, propB_ok e7, F7⟩⟩
end MN
/-! rows of changes: the words behind them -/
namespace MN
open PySem PySem.Spec PyProof.Rows L2
/-- any value in the place of a row of changes -/
def RowD (K : PySem.W.Frag) (H : Hp) (v : V) (d : PyData) : Prop := (Dp K H v d ∧ Sb 9 50000 d ∧ ∀ ds, d = .tuple ds → ds.length ≤ 40) ∨ ∃ a, v = .ref a ∧ H a = some (.dK []) ∧ d = .dict []
theorem RowD.same {K : PySem.W.Frag} {H H' : Hp} {v : V} {d : PyData} (h : RowD K H v d) (e : Same H H') : RowD K H' v d := by
  rcases h with ⟨h1, h2⟩ | ⟨a, h1, h2, h3⟩
  · exact .inl ⟨dp_same e d v h1, h2⟩
  · exact .inr ⟨a, h1, e _ _ h2, h3⟩
theorem RowD.isT {K : PySem.W.Frag} {H : Hp} {v : V} {d : PyData} (h : RowD K H v d) : IsX K H v "tuple" (isTD d) := by
  rcases h with ⟨h1, _⟩ | ⟨a, rfl, h2, rfl⟩
  · exact dp_isT h1
  · exact .ty (.base (.dK h2)) (by decide +kernel)
/-- it is a row of changes of u -/
abbrev IsRow5 (u : List Nat) (d : PyData) (cs : List Ch5) : Prop := okRow u cs ∧ d = .tuple (cs.map Ch5.dat)
theorem at_last5 {xs : List V} {n : Nat} {v : V} (hl : xs.length = n + 1) (h : xs[n]? = some v) : atI xs (-1) = some v := by
  unfold atI ixN
  rw [hl]
  simp only [show ¬ (0 : Int) ≤ -1 by decide, if_false]
  rw [if_pos (by omega)]
  show xs[(-1 + ((n + 1 : Nat) : Int)).toNat]? = some v
  rw [show (-1 + ((n + 1 : Nat) : Int)).toNat = n by omega]
  exact h
section
variable {P : Program} {w : World} {K : PySem.W.Frag} {mg : Str → Option Value} {base : Heap} {eC : Addr}
def spAlong5 (K : PySem.W.Frag) : Sp := fun vs H Q _ => ∃ u v d, vs = [.str (wS u), v] ∧ u.length ≤ 1000 ∧ RowD K H v d ∧ (∀ cs, IsRow5 u d cs → ∀ p H', Same H H' → H' p = some (.lst (wordsV (along u cs))) → Q (.ref p) H') ∧ ((∀ cs, ¬ IsRow5 u d cs) → ∀ H', Same H H' → Q .non H')
abbrev N_words_along : List Str := ["word", "changes", "found", "change", "made"]
theorem sc_words_along : FnScope N_words_along ["word", "changes"] (defScope (top 26)) := ⟨rfl, rfl, rfl, by decide +kernel, rfl, by decide +kernel, by decide +kernel⟩
theorem c_words_along (A : At K mg "words_along" (top 26)) (B : Blt mg) (c_made_by : Cal P w K mg base 3 "made_by" (spMade5 K)) : Cal P w K mg base 4 "words_along" (spAlong5 K) := by
  refine cal_of A sc_words_along (fun _ _ _ _ _ _ us hl => match us, hl with | [_, _], _ => rfl) (fun vs H Q E h => ?_) (fun f cdv A outer s H vs Q E hr h => ?_)
  · obtain ⟨_, _, _, rfl, _⟩ := h; rfl
  · obtain ⟨u, v, d, rfl, lu, hd, hY, hN⟩ := h
    refine ⟨_, (pss_cons (ps_if (pt_not (pt_val (pe_callB call_isS (by rfl) B.isinstance (by decide +kernel) (pa_cons (pv 1) (pa_cons (pe_bltn (v := .ty "tuple") (by rfl) B.tuple (by decide +kernel) rfl) pa_nil))))) (pss_one (ps_ret pe_non)) pss_nil)
      (pss_cons (ps_set (i := 2) sc_words_along.nd rfl (Or.inl rfl) (pe_lst (pa_cons (pv 0) pa_nil)))
      (pss_cons (ps_for PassesOwn.never rfl (pi_tup (pv 1)) (pg_name (i := 3) sc_words_along.nd rfl (Or.inl rfl))
      (pss_cons (ps_set (i := 4) sc_words_along.nd rfl (Or.inl rfl) (pe_c c_made_by hr (by decide) (by rfl) (pa_cons (pe_ix ix_list (pv 2) (pe_un un_neg pe_int) (fun _ _ => rfl)) (pa_cons (pv 3) pa_nil))))
      (pss_cons (ps_if (pt_cmpR op_isN (pv 4) pe_non (nomark _)) (pss_one (ps_ret pe_non)) pss_nil)
      (pss_one (ps_expr (pe_append K rfl (pv 2) (pv 4)))))))
      (pss_one (ps_ret (pv 2)))))), ?_⟩
    have one : 1 ≤ sizeLine := by decide
    refine ⟨_, rfl, v, "tuple", isTD d, rfl, hd.isT, _, rfl, ?_⟩
    cases hi : isTD d with
    | false =>
      refine iteT (hN (fun cs h => ?_) H (Same.refl _))
      rw [h.2] at hi
      cases hi
    | true =>
    refine iteF ?_
    obtain ⟨ds, rfl⟩ : ∃ ds, d = .tuple ds := by
      cases d <;> first | exact ⟨_, rfl⟩ | cases hi
    rcases hd with ⟨hd, sb, ln⟩ | ⟨_, _, _, e⟩
    case inr => cases e
    replace ln := ln ds rfl
    cases hd with
    | @tup a xs _ ha hds =>
    have sbi := sb_item sb
    have hl := dpa_len hds
    refine ⟨_, rfl, one, fun D hD => ?_⟩
    have e0 := same_new (o := .lst [.str (wS u)]) hD
    have aD : ∀ o, H a = some o → a ≠ D := fun o h => ne_of_none h hD
    have haT : ∀ H', Same H H' → SqT K H' a xs := fun H' e => Same.seqT e ha
    refine ⟨_, rfl, a, rfl, ⟨_, haT _ e0⟩, for_it walk_tup (fun i σ H' => Same H H' ∧ (∃ o3 o4, σ = [some (.str (wS u)), some (.ref a), some (.ref D), o3, o4]) ∧ ∃ cs, okRow u cs ∧ cs.length = i ∧ cs.map Ch5.dat = ds.take i ∧ H' D = some (.lst (wordsV (along u cs)))) ⟨e0, ⟨_, _, rfl⟩, [], trivial, rfl, rfl, upd_same⟩ (fun i σ H' _ e => haT _ e.1) (fun i y σ H2 H2' hi' e hy => ?_) (fun σ H2 e => ?_)⟩
    · obtain ⟨rfl, hy⟩ := hy
      obtain ⟨e2, ⟨o3, o4, rfl⟩, cs, ok, lc, mc, hF⟩ := e
      have hi2 : i < ds.length := by omega
      have hdi := List.getElem?_eq_getElem hi2
      have hdp := dpa_get hds hy hdi
      have lw : (lastW u cs).length ≤ 5000 := by
        have := lastW_len ok
        omega
      have lv : (wordsV (along u cs)).length = i + 1 := by rw [wordsV, List.length_map, along_len, lc]
      have at1 : atI (wordsV (along u cs)) (-1) = some (.str (wS (lastW u cs))) := by
        have h1 : (wordsV (along u cs))[i]? = some (.str (wS (lastW u cs))) := by
          rw [wordsV, List.getElem?_map, ← lc, along_last]
          rfl
        exact at_last5 lv h1
      have next : ∀ c : Ch5, c.Ok (lastW u cs) → ds[i] = c.dat → okRow u (cs ++ [c]) ∧ (cs ++ [c]).map Ch5.dat = ds.take (i + 1) := fun c hc e => by
        refine ⟨okRow_app.mpr ⟨ok, hc, trivial⟩, ?_⟩
        rw [List.map_append, mc, List.map_cons, List.map_nil, ← e, List.take_succ, List.getElem?_eq_getElem hi2]
        rfl
      refine ⟨_, rfl, _, rfl, _, _, _, _, rfl, rfl, SqL.of hF, at1, _, rfl, lastW u cs, y, ds[i], rfl, lw, dp_same e2 _ _ hdp, sbi _ (List.getElem_mem hi2), fun c hc e H3 e3 => ?_, fun no H3 e3 => ?_⟩
      · refine ⟨_, rfl, rfl, _, rfl, iteF ?_⟩
        obtain ⟨n1, n2⟩ := next c hc e
        refine ⟨_, rfl, .inl ⟨rfl, _, SqL.of (e3 _ _ hF)⟩, _, rfl, D, _, _, rfl, rfl, e3 _ _ hF, ?_, ?_⟩
        · have : 1000 < sizeLine := by decide
          omega
        · refine ⟨fun b o h => by rw [upd_ne (ne_of_none h hD)]; exact (e2.trans e3) _ _ h, ⟨_, _, rfl⟩, cs ++ [c], n1, by rw [List.length_append, lc]; rfl, n2, ?_⟩
          rw [upd_same, along_app1]
          simp [wordsV]
      · refine ⟨_, rfl, rfl, _, rfl, iteT (hN (fun cs' h => ?_) _ (e2.trans e3))⟩
        have e4 := dats_pre (u := u) (k := i) mc (by have := h.2; injection this with this; exact this.symm)
        have l2 : cs'.length = ds.length := by
          have := h.2
          injection this with this
          rw [this, List.length_map]
        have g1 := List.getElem?_eq_getElem (show i < cs'.length by omega)
        have g2 := okRow_at h.1 g1
        rw [← e4] at g2
        refine no _ g2 ?_
        have : ds = cs'.map Ch5.dat := by have := h.2; injection this
        subst this
        simp
    · obtain ⟨e2, ⟨o3, o4, rfl⟩, cs, ok, lc, mc, hF⟩ := e
      refine ⟨_, rfl, hY cs ⟨ok, ?_⟩ D H2 e2 hF⟩
      rw [mc, List.take_of_length_le (by omega)]
def spReqC5 (K : PySem.W.Frag) (eC : Addr) : Sp := fun vs H Q E => ∃ u v d, vs = [.str (wS u), v] ∧ u.length ≤ 1000 ∧ RowD K H v d ∧ (∀ cs, IsRow5 u d cs → ∀ p H', Same H H' → H' p = some (.lst (wordsV (along u cs))) → Q (.ref p) H') ∧ ((∀ cs, ¬ IsRow5 u d cs) → ∀ H', Same H H' → E (.ref eC) none H')
abbrev N_require_changes : List Str := ["word", "changes", "found"]
theorem sc_require_changes : FnScope N_require_changes ["word", "changes"] (defScope (top 27)) := ⟨rfl, rfl, rfl, by decide +kernel, rfl, by decide +kernel, by decide +kernel⟩
theorem x_require_changes (A : At K mg "require_changes" (top 27)) (E1 : ErK K mg "InvalidChange" eC) (c_words_along : Cal P w K mg base 4 "words_along" (spAlong5 K)) : CalX P w K mg base 5 "require_changes" (spReqC5 K eC) := by
  refine calX_of A sc_require_changes (fun _ _ _ _ _ _ us hl => match us, hl with | [_, _], _ => rfl) (fun vs H Q E h => ?_) (fun _ cdv A outer s H vs Q E hr h => ?_)
  · obtain ⟨_, _, _, rfl, _⟩ := h; rfl
  · obtain ⟨u, v, d, rfl, lu, hd, hY, hN⟩ := h
    refine ⟨_, (pss_cons (ps_set (i := 2) sc_require_changes.nd rfl (Or.inl rfl) (pe_c c_words_along hr (by decide) (by rfl) (pa_cons (pv 0) (pa_cons (pv 1) pa_nil))))
      (pss_cons (ps_if (pt_cmpR op_isN (pv 2) pe_non (nomark _)) (pss_one (ps_raise rfl (takes_of rfl rfl rfl rfl) (pmk_k E1 (by rfl)))) pss_nil)
      (pss_one (ps_ret (pv 2))))), ?_⟩
    refine ⟨_, rfl, _, rfl, u, v, d, rfl, lu, hd, fun cs h p H' e hp => ?_, fun h H' e => ?_⟩
    · exact ⟨_, rfl, rfl, _, rfl, iteF ⟨_, rfl, hY cs h p H' e hp⟩⟩
    · exact ⟨_, rfl, rfl, _, rfl, iteT (hN h H' e)⟩
def spChanged5 (K : PySem.W.Frag) (eC : Addr) : Sp := fun vs H Q E => ∃ u v d, vs = [.str (wS u), v] ∧ (∀ a ∈ u, a ∈ abc) ∧ u.length ≤ 1000 ∧ RowD K H v d ∧ (∀ cs, IsRow5 u d cs → ∀ H', Same H H' → Q (.str (wS (lastW u cs))) H') ∧ ((∀ cs, ¬ IsRow5 u d cs) → ∀ H', Same H H' → E (.ref eC) none H')
abbrev N_changed : List Str := ["word", "changes"]
theorem sc_changed : FnScope N_changed ["word", "changes"] (defScope (top 28)) := ⟨rfl, rfl, rfl, by decide +kernel, rfl, by decide +kernel, by decide +kernel⟩
theorem x_changed (A : At K mg "changed" (top 28)) (c_require_word : Cal P w K mg base 2 "require_word" spReqWord) (x_require_changes : CalX P w K mg base 5 "require_changes" (spReqC5 K eC)) : CalX P w K mg base 6 "changed" (spChanged5 K eC) := by
  refine calX_of A sc_changed (fun _ _ _ _ _ _ us hl => match us, hl with | [_, _], _ => rfl) (fun vs H Q E h => ?_) (fun _ cdv A outer s H vs Q E hr h => ?_)
  · obtain ⟨_, _, _, rfl, _⟩ := h; rfl
  · obtain ⟨u, v, d, rfl, su, lu, hd, hY, hN⟩ := h
    refine ⟨_, (pss_cons (ps_expr (pe_c c_require_word hr (by decide) (by rfl) (pa_cons (pv 0) pa_nil)))
      (pss_one (ps_ret (pe_ix ix_list (pe_cX x_require_changes (takes_of rfl rfl rfl rfl) hr (by decide) (by rfl) (pa_cons (pv 0) (pa_cons (pv 1) pa_nil))) (pe_un un_neg pe_int) (fun _ _ => rfl))))), ?_⟩
    refine ⟨_, rfl, u, rfl, su, lu, fun H1 e1 => ⟨_, rfl, _, rfl, u, v, d, rfl, lu, hd.same e1, fun cs h p H' e hp => ?_, fun h H' e => hN h H' (e1.trans e)⟩⟩
    refine ⟨_, rfl, p, _, _, .str (wS (lastW u cs)), rfl, rfl, SqL.of hp, ?_, hY cs h H' (e1.trans e)⟩
    have h1 : (wordsV (along u cs))[cs.length]? = some (.str (wS (lastW u cs))) := by
      rw [wordsV, List.getElem?_map, along_last]
      rfl
    have lv : (wordsV (along u cs)).length = cs.length + 1 := by rw [wordsV, List.length_map, along_len]
    exact at_last5 lv h1
end
end MN
/-! xs[::-1] of a list; d.clear() -/
namespace MN
open PySem PySem.Spec PyProof.Rows L2
theorem range_back (n : Nat) : sliceRange ((n : Int) - 1) (-1) (-1) = (List.range n).map fun k => n - 1 - k := by
  have c : (if (-1 : Int) > 0 then (if ((n : Int) - 1) < -1 then (-1 - ((n : Int) - 1) + -1 - 1) / (-1) else 0) else (if ((n : Int) - 1) > -1 then (((n : Int) - 1) - -1 - -1 - 1) / (- -1) else 0)).toNat = n := by
    rw [if_neg (by decide)]
    by_cases h : n = 0
    · subst h; rfl
    · rw [if_pos (by omega), Int.neg_neg, Int.ediv_one]
      omega
  show (List.range (Int.toNat _)).map _ = _
  rw [c]
  refine List.map_congr_left fun k hk => ?_
  have := List.mem_range.mp hk
  omega
theorem pick_revL (xs : Array Value) : slicePick xs none none (some (-1)) = xs.toList.reverse.toArray := by
  have hb : sliceBounds none none (some (-1)) xs.size = ((xs.size : Int) - 1, -1, -1) := rfl
  unfold slicePick
  rw [hb, range_back]
  congr 1
  rw [List.filterMap_map]
  have e : ∀ k ∈ List.range xs.size, ((fun (j : Nat) => xs[j]?) ∘ fun k => xs.size - 1 - k) k = some (xs.toList.reverse.getD k .none) := by
    intro k hk
    have hk : k < xs.size := List.mem_range.mp hk
    have hl : k < xs.toList.reverse.length := by simpa using hk
    show xs[xs.size - 1 - k]? = _
    rw [List.getD_eq_getElem?_getD, List.getElem?_eq_getElem hl, List.getElem_reverse]
    rw [Array.getElem?_eq_getElem (by omega)]
    simp
  rw [filterMap_some e]
  apply List.ext_getElem?
  intro i
  rw [List.getElem?_map]
  by_cases hi : i < xs.size
  · rw [List.getElem?_range hi]
    have hl : i < xs.toList.reverse.length := by simpa using hi
    simp only [Option.map_some]
    rw [List.getD_eq_getElem?_getD, List.getElem?_eq_getElem hl]
    simp
  · rw [List.getElem?_eq_none (by simpa using hi), List.getElem?_eq_none (by simpa using hi)]
    rfl
section
variable {X : Cx}
def tRevL (K : PySem.W.Frag) (te : TE) : TE := fun σ H Q => te σ H fun x H1 => ∃ a xs, x = .ref a ∧ SqL K H1 a xs ∧ ∀ p, H1 p = none → Q (.ref p) (upd H1 p (.lst xs.reverse))
theorem pe_revL {K : PySem.W.Frag} (hK : X.K = K) {e : Expr} {te : TE} {k : Nat} {p1 p2 p3 pos : Pos} (he : PE X e te) : PE X (.Subscript e (.Slice none none (some (.UnaryOp .USub (.Constant (.int 1) k p1) p2)) p3) pos) (tRevL K te) := by
  subst hK
  refine ⟨fun pins s σ H Q I h => ?_⟩
  refine Subscript_ (thn (he.run pins s σ H _ I h) fun v s1 ⟨x, H1, I1, r1, a, xs, ex, hx, q⟩ => ?_)
  subst ex
  cases r1
  have hst : PO X (some (.UnaryOp .USub (.Constant (.int 1) k p1) p2)) (tPart (tUn (rU fun i => .int (-i)) (tC (.int 1)))) := po_some (pe_un un_neg pe_int)
  refine wpAny_Slice (thn (po_none.run pins s1 σ H1 (fun o H2 => o = none ∧ H2 = H1) I1 ⟨rfl, rfl⟩) fun vl s2 ⟨l, H2, I2, pl, el, e2⟩ => ?_)
  cases el
  cases e2
  refine thn (po_none.run pins s2 σ H1 (fun o H3 => o = none ∧ H3 = H1) I2 ⟨rfl, rfl⟩) fun vu s3 ⟨u, H3, I3, pu, eu, e3⟩ => ?_
  cases eu
  cases e3
  refine thn (hst.run pins s3 σ H1 (fun o H4 => o = some (-1) ∧ H4 = H1) I3 ⟨1, rfl, -1, rfl, rfl, rfl⟩) fun vs s4 ⟨o, H4, I4, ps, eo, e4⟩ => ?_
  cases eo
  cases e4
  cases pl
  cases pu
  have I5 : Inv X pins σ H1 { s4 with heap := s4.heap.push { cls := .type "slice", data := .fields #[.none, .none, vs] } } := I4.kept (t' := s4.toks) fun b ob q => Heap.get?_push_of_some _ q
  obtain ⟨its, r, ht, hz⟩ := I5.list hx
  have hlen := r.length
  show wpAny (model X.prog X.w) X.A (subscriptTail e (.Slice none none (some (.UnaryOp .USub (.Constant (.int 1) k p1) p2)) p3) (.ref a) (.ref s4.heap.objs.size)) (EP X pins σ Q) X.xe { s4 with heap := s4.heap.push { cls := .type "slice", data := .fields #[.none, .none, vs] } }
  refine tail_any (ops := [.ref a, .ref s4.heap.objs.size]) ht.isList.typeIs slot_list_getitem.lookup ?_ (by with_unfolding_all rfl)
  refine wpAny_getItem_list_slice ht.isList (Heap.IsSliceOf.new _ .none .none vs) .none .none ps (by decide) ?_ (by rw [List.size_toArray]; omega)
  rw [pick_revL]
  refine ⟨.ref _, _, I5.laid (t' := s4.toks) (o := .lst xs.reverse) (fun b ob q => Heap.get?_push_of_some _ q) (Nat.le_refl _) ?_, rfl, q _ (I5.hok.fresh (Nat.le_refl _))⟩
  exact ⟨by rw [List.length_reverse]; exact hz, _, 0, r.reverse, Heap.get?_push_size _ rfl⟩
def rDClr : V → List V → Hp → VK → Prop := fun x vs H Q => ∃ (a : Addr) (kvs : List (Key × V)), x = .ref a ∧ vs = [] ∧ H a = some (.dK kvs) ∧ Q .non (upd H a (.dK []))
theorem mtd_clr : MtR X "dict.clear" rDClr := by
  intro pins s σ H x vs v us Q I rx rv h
  obtain ⟨a, kvs, ex, ev, e, q⟩ := h
  subst ex
  subst ev
  obtain rfl : v = Value.ref a := rx
  have hus := rv.zero
  subst hus
  exact d_clear I e fun s' I' => ⟨.non, _, I', rfl, q⟩
end
theorem Paired.snoc' {α β : Type} {F : α → β → Prop} {a : α} {b : β} : ∀ {xs : List α} {ys : List β}, Paired F xs ys → F a b → Paired F (xs ++ [a]) (ys ++ [b])
  | _, _, .nil, h => .cons h .nil
  | _, _, .cons x r, h => .cons x (Paired.snoc' r h)
theorem Paired.rev {α β : Type} {F : α → β → Prop} : ∀ {xs : List α} {ys : List β}, Paired F xs ys → Paired F xs.reverse ys.reverse
  | _, _, .nil => .nil
  | _, _, .cons x r => by
    rw [List.reverse_cons, List.reverse_cons]
    exact Paired.snoc' (Paired.rev r) x
/-! ### equal dicts -/
end MN
/-! undone: the row of changes back -/
namespace MN
open PySem PySem.Spec PyProof.Rows L2
section
variable {K : PySem.W.Frag} {H : Hp} {a : Addr} {x0 x1 x2 : V} {i j k : Nat} {tb : TS} {tr : V → TS} {D : Ends} {σ : L2.St}
theorem caseAny3 (ha : SqT K H a [x0, x1, x2]) (hy : tb D (((σ.set k (some x0)).set i (some x1)).set j (some x2)) H) : tCaseS K [.cap k, .cap i, .cap j] tb tr (.ref a) D σ H :=
  ⟨a, _, rfl, ha, fun _ => iteT (A := tb D (((σ.set k (some x0)).set i (some x1)).set j (some x2)) H) (B := tr (.ref a) D σ H) hy, fun e => absurd rfl e⟩
end
def Ch5.vals : Ch5 → List V
  | .put i c => [.str "put", .int ((i : Nat) : Int), .str (sgS c)]
  | .out i => [.str "out", .int ((i : Nat) : Int)]
  | .swap i c => [.str "swap", .int ((i : Nat) : Int), .str (sgS c)]
theorem vals_dp {K : PySem.W.Frag} {H : Hp} {t : Addr} {c : Ch5} (h : SqT K H t c.vals) : Dp K H (.ref t) c.dat := by
  cases c with
  | put i c => exact .tup h (.cons (.str _) (.cons (.int _) (.cons (.str _) .nil)))
  | out i => exact .tup h (.cons (.str _) (.cons (.int _) .nil))
  | swap i c => exact .tup h (.cons (.str _) (.cons (.int _) (.cons (.str _) .nil)))
theorem dp_vals {K : PySem.W.Frag} {H : Hp} {v : V} {c : Ch5} (h : Dp K H v c.dat) : ∃ t, v = .ref t ∧ SqT K H t c.vals := by
  cases c with
  | put i c =>
    cases h with
    | tup hs ha =>
      cases ha with | cons h0 ha => cases ha with | cons h1 ha => cases ha with | cons h2 ha => cases ha; cases h0; cases h1; cases h2; exact ⟨_, rfl, hs⟩
  | out i =>
    cases h with
    | tup hs ha =>
      cases ha with | cons h0 ha => cases ha with | cons h1 ha => cases ha; cases h0; cases h1; exact ⟨_, rfl, hs⟩
  | swap i c =>
    cases h with
    | tup hs ha =>
      cases ha with | cons h0 ha => cases ha with | cons h1 ha => cases ha with | cons h2 ha => cases ha; cases h0; cases h1; cases h2; exact ⟨_, rfl, hs⟩
/-- a comprehension over two sequences: each item is as it should be -/
theorem lc_zipR {K : PySem.W.Frag} {ba bb : Bool} {a b D : Addr} {xs ys : List V} {H1 : Hp} {σ : L2.St} {vs : List Nat} {te : TE} {j1 j2 n : Nat} {Qd : Hp → Prop} (hx : SqK K ba H1 a xs) (hy : SqK K bb H1 b ys) (hn : n = min xs.length ys.length) (hz : n ≤ 1000) (hD : H1 D = none)
    (hw : ∀ x y, wipe (((wipe σ vs).set j1 (some x)).set j2 (some y)) vs = wipe σ vs) (R : Nat → V → Hp → Prop) (hR : ∀ k v H H', (∀ b o, b ≠ D → H b = some o → H' b = some o) → (∃ l, H D = some (.lst l)) → R k v H → R k v H')
    (he : ∀ i x y, xs[i]? = some x → ys[i]? = some y → ∀ H2, Same H1 H2 → ∀ (Q : VK), (∀ v H3, Same H2 H3 → R i v H3 → Q v H3) → te (((wipe σ vs).set j1 (some x)).set j2 (some y)) H2 Q)
    (hd : ∀ (H' : Hp) (outs : List V), Same H1 H' → H' D = some (.lst outs) → outs.length = n → (∀ (k : Nat) (v : V), outs[k]? = some v → R k v H') → Qd H') :
    LcGoal (ItzM K ba bb a b xs ys) (gTup K 2 (gCons (gName j1) (gCons (gName j2) gNil))) tYes te vs σ H1 D Qd := by
  refine lc_it (walk_zipM hn) (fun i H' => Same H1 H' ∧ ∃ outs, H' D = some (.lst outs) ∧ outs.length = i ∧ ∀ k v, outs[k]? = some v → R k v H') ⟨same_new hD, [], upd_same, rfl, fun k v h => by cases h⟩ (fun i H' _ e => ⟨SqK.same e.1 hx, SqK.same e.1 hy⟩) (fun i x H H' hi e y => ?_) (fun H' e => ?_)
  · obtain ⟨T, x1, y1, rfl, hT, rfl, h1, h2⟩ := y
    obtain ⟨e1, outs, e2, e3, e4⟩ := e
    have sT := same_new (o := .tup [x1, y1]) hT
    have s1 := e1.trans sT
    refine ⟨T, _, rfl, .inl (.inl upd_same), rfl, _, _, rfl, _, _, rfl, rfl, hw _ _, yes_q (iteT (he i x1 y1 h1 h2 _ s1 _ fun v H3 s3 hv => ⟨outs, s3 _ _ (sT _ _ e2), ?_, fun b o q => ?_, outs ++ [v], upd_same, by rw [List.length_append, e3]; rfl, fun k v' h => ?_⟩))⟩
    · have : 1000000 < sizeLine := by decide
      omega
    · rw [upd_ne (ne_of_none q hD)]
      exact s3 _ _ (s1 _ _ q)
    · have hb : ∀ (b : Addr) (o : HO), b ≠ D → H3 b = some o → upd H3 D (.lst (outs ++ [v])) b = some o := fun b o n h => by rw [upd_ne n]; exact h
      have hL : ∃ l, H3 D = some (.lst l) := ⟨_, s3 _ _ (sT _ _ e2)⟩
      by_cases hk : k < outs.length
      · rw [List.getElem?_append_left hk] at h
        exact hR k v' H3 _ hb hL (hR k v' H H3 (fun b o _ q => s3 _ _ (sT _ _ q)) ⟨_, e2⟩ (e4 k v' h))
      · have hl := (List.getElem?_eq_some_iff.mp h).1
        rw [List.length_append] at hl
        have hkl : k = outs.length := by simp at hl; omega
        subst hkl
        rw [List.getElem?_append_right (Nat.le_refl _), Nat.sub_self] at h
        cases h
        rw [e3]
        exact hR _ _ H3 _ hb hL hv
  · obtain ⟨e1, outs, e2, e3, e4⟩ := e
    exact hd H' outs e1 e2 e3 e4
section
variable {P : Program} {w : World} {K : PySem.W.Frag} {mg : Str → Option Value} {base : Heap} {eC : Addr}
def spTaken5 (K : PySem.W.Frag) : Sp := fun vs H Q _ => ∃ (u : List Nat) (v : V) (c : Ch5), vs = [.str (wS u), v] ∧ u.length ≤ 5000 ∧ c.Ok u ∧ Dp K H v c.dat ∧ ∀ t H', Same H H' → H t = none → H' t = some (.tup (c.back u).vals) → Q (.ref t) H'
abbrev N_taken_back : List Str := ["word", "change", "i", "sign", "kind"]
theorem sc_taken_back : FnScope N_taken_back ["word", "change"] (defScope (top 29)) := ⟨rfl, rfl, rfl, by decide +kernel, rfl, by decide +kernel, by decide +kernel⟩
theorem c_taken_back (A : At K mg "taken_back" (top 29)) (B : Blt mg) : Cal P w K mg base 1 "taken_back" (spTaken5 K) := by
  refine cal_of A sc_taken_back (fun _ _ _ _ _ _ us hl => match us, hl with | [_, _], _ => rfl) (fun vs H Q E h => ?_) (fun f cdv A outer s H vs Q E hr h => ?_)
  · obtain ⟨_, _, _, rfl, _⟩ := h; rfl
  · obtain ⟨u, v, c, rfl, lu, ok, hd, hQ⟩ := h
    refine ⟨_, (pss_one (ps_match (pv 1) (pcs_seq (K := K) rfl hr.units rfl sc_taken_back.nd (.cons (.val (by decide +kernel)) (.cons (.cap (i := 2) rfl (Or.inl rfl) (.inl rfl)) (.cons (.cap (i := 3) rfl (Or.inl rfl) (.inl rfl)) .nil)))
        (pss_one (ps_ret (pe_tup (pa_cons pe_str (pa_cons (pv 2) pa_nil)))))
        (pcs_seq (K := K) rfl hr.units rfl sc_taken_back.nd (.cons (.val (by decide +kernel)) (.cons (.cap (i := 2) rfl (Or.inl rfl) (.inl rfl)) .nil))
        (pss_one (ps_ret (pe_tup (pa_cons pe_str (pa_cons (pv 2) (pa_cons (pe_ix ix_str (pv 0) (pv 2) (fun _ _ => rfl)) pa_nil))))))
        (pcs_seq (K := K) rfl hr.units rfl sc_taken_back.nd (.cons (.cap (i := 4) rfl (Or.inl rfl) (.inl rfl)) (.cons (.cap (i := 2) rfl (Or.inl rfl) (.inl rfl)) (.cons (.cap (i := 3) rfl (Or.inl rfl) (.inl rfl)) .nil)))
        (pss_one (ps_ret (pe_tup (pa_cons (pv 4) (pa_cons (pv 2) (pa_cons (pe_ix ix_str (pv 0) (pv 2) (fun _ _ => rfl)) pa_nil))))))
        pcs_nil))))), ?_⟩
    have big : 100000 < sizeLine := by decide
    have two : 2 ≤ sizeLine := by decide
    have three : 3 ≤ sizeLine := by decide
    have lw : (wS u).length = u.length := wS_len u
    obtain ⟨t, rfl, ht⟩ := dp_vals hd
    refine ⟨_, rfl, ?_⟩
    have lit : ∀ z : Str, SeqAt.shaped (.str z) = true → True := fun _ _ => trivial
    cases c with
    | put i c =>
      refine case3 ht (.str _) (by decide +kernel) (fun _ => ?_) (fun e => absurd rfl e)
      exact ⟨_, rfl, two, fun t hT => hQ t _ (same_new hT) hT upd_same⟩
    | out i =>
      have li : i < u.length := ok
      have gi := Ch5.getD_of li
      refine case_miss ht (by simp [Ch5.vals]) (case2 ht (.str _) (by decide +kernel) (fun _ => ?_) (fun e => absurd rfl e))
      exact ⟨_, rfl, _, rfl, _, rfl, wS u, _, _, rfl, rfl, by omega, atI_nat gi, three, fun t hT => hQ t _ (same_new hT) hT upd_same⟩
    | swap i c =>
      have li : i < u.length := ok.1
      have gi := Ch5.getD_of li
      refine case3 ht (.str _) (by decide +kernel) (fun e => ?_) (fun _ => case_miss ht (by simp [Ch5.vals]) (caseAny3 ht ?_))
      · injection e with e
        exact absurd e (by decide)
      · exact ⟨_, rfl, _, rfl, _, rfl, _, rfl, wS u, _, _, rfl, rfl, by omega, atI_nat gi, three, fun t hT => hQ t _ (same_new hT) hT upd_same⟩
def spUndone5 (K : PySem.W.Frag) (eC : Addr) : Sp := fun vs H Q E => ∃ u v d, vs = [.str (wS u), v] ∧ (∀ a ∈ u, a ∈ abc) ∧ u.length ≤ 1000 ∧ RowD K H v d ∧ (∀ cs, IsRow5 u d cs → ∀ t H', Same H H' → H t = none → Dp K H' (.ref t) (.tuple ((wayBack u cs).map Ch5.dat)) → Q (.ref t) H') ∧ ((∀ cs, ¬ IsRow5 u d cs) → ∀ H', Same H H' → E (.ref eC) none H')
theorem dpa_of {K : PySem.W.Frag} {H : Hp} : ∀ {vs : List V} {ds : List PyData}, vs.length = ds.length → (∀ (k : Nat) (v : V) (d : PyData), vs[k]? = some v → ds[k]? = some d → Dp K H v d) → DpAll K H vs ds
  | [], [], _, _ => .nil
  | v :: vs, d :: ds, l, h => .cons (h 0 v d rfl rfl) (dpa_of (by simpa using l) fun k v' d' h1 h2 => h (k + 1) v' d' h1 h2)
abbrev N_undone : List Str := ["word", "changes", "words", "ahead", "change"]
theorem sc_undone : FnScope N_undone ["word", "changes"] (defScope (top 30)) := ⟨rfl, rfl, rfl, by decide +kernel, rfl, by decide +kernel, by decide +kernel⟩
theorem x_undone (A : At K mg "undone" (top 30)) (B : Blt mg) (c_require_word : Cal P w K mg base 2 "require_word" spReqWord) (x_require_changes : CalX P w K mg base 5 "require_changes" (spReqC5 K eC)) (c_taken_back : Cal P w K mg base 1 "taken_back" (spTaken5 K)) : CalX P w K mg base 6 "undone" (spUndone5 K eC) := by
  refine calX_of A sc_undone (fun _ _ _ _ _ _ us hl => match us, hl with | [_, _], _ => rfl) (fun vs H Q E h => ?_) (fun _ cdv A outer s H vs Q E hr h => ?_)
  · obtain ⟨_, _, _, rfl, _⟩ := h; rfl
  · obtain ⟨u, v, d, rfl, su, lu, hd, hY, hN⟩ := h
    refine ⟨_, (pss_cons (ps_expr (pe_c c_require_word hr (by decide) (by rfl) (pa_cons (pv 0) pa_nil)))
      (pss_cons (ps_set (i := 2) sc_undone.nd rfl (Or.inl rfl) (pe_cX x_require_changes (takes_of rfl rfl rfl rfl) hr (by decide) (by rfl) (pa_cons (pv 0) (pa_cons (pv 1) pa_nil))))
      (pss_one (ps_ret (pe_callTy call_tuple_of (by rfl) B.tuple (by decide +kernel) (pa_cons (pe_revL (K := K) rfl (pe_lc (own := [("ahead", 3), ("change", 4)]) (tt := tYes) (by rfl) sc_undone.nd (pi_zipM false true (by rfl) B.zip (pa_cons (pv 2) (pa_cons (pv 1) pa_nil))) (blkOk_by (own := [("ahead", 3), ("change", 4)]) (N := N_undone) (sc := defScope (top 30)) (by decide +kernel)) (fun _ _ _ _ _ => (pg_tupK (K := K) (n := 2) rfl rfl (pgs_cons (pg_name (i := 3) sc_undone.nd rfl (Or.inl rfl)) (pgs_cons (pg_name (i := 4) sc_undone.nd rfl (Or.inl rfl)) pgs_nil)))) (fun _ _ _ _ _ => pts_nil) (fun _ _ _ _ _ => (pe_c c_taken_back hr (by decide) (by rfl) (pa_cons (pv 3) (pa_cons (pv 4) pa_nil)))))) pa_nil)))))), ?_⟩
    refine ⟨_, rfl, u, rfl, su, lu, fun H1 e1 => ⟨_, rfl, _, rfl, u, v, d, rfl, lu, hd.same e1, fun cs h p H2 e2 hp => ?_, fun h H' e => hN h H' (e1.trans e)⟩⟩
    have ok := h.1
    rcases hd with ⟨hd, sb, ln⟩ | ⟨_, _, _, e⟩
    case inr =>
      have := h.2
      rw [e] at this
      cases this
    have hd2 := dp_same (e1.trans e2) _ _ hd
    rw [h.2] at hd2
    have lc : cs.length ≤ 40 := by
      have := ln _ h.2
      rwa [List.length_map] at this
    cases hd2 with
    | @tup a xs _ ha hds =>
    have hl := dpa_len hds
    rw [List.length_map] at hl
    have lv : (wordsV (along u cs)).length = cs.length + 1 := by rw [wordsV, List.length_map, along_len]
    refine ⟨_, rfl, _, rfl, p, a, _, _, rfl, SqL.of hp, ha, fun D hD => ?_⟩
    refine lc_zipR (n := cs.length) (SqL.of hp) ha (by rw [lv, hl]; omega) (by omega) hD (fun _ _ => by kernel_rfl) (fun k v H' => ∃ t c, v = .ref t ∧ (backs u cs)[k]? = some c ∧ H' t = some (.tup c.vals)) (fun k v Ha Hb hk ⟨l, hL⟩ hr => ?_) (fun i x y hx hy H3 e3 Q' q' => ?_) (fun H3 outs e3 hO lo ho => ?_)
    · obtain ⟨t, c, r1, r2, r3⟩ := hr
      exact ⟨t, c, r1, r2, hk _ _ (fun z => by rw [z, hL] at r3; cases r3) r3⟩
    · have hi : i < cs.length := by
        have := (List.getElem?_eq_some_iff.mp hy).1
        omega
      have gi := List.getElem?_eq_getElem hi
      have okc := okRow_at ok gi
      have hx' : x = .str (wS (lastW u (cs.take i))) := by
        rw [wordsV, List.getElem?_map, along_at (by omega)] at hx
        cases hx
        rfl
      have hdy : Dp K H2 y cs[i].dat := dpa_get hds hy (by rw [List.getElem?_map, gi]; rfl)
      have ll : (lastW u (cs.take i)).length ≤ 5000 := by
        have h1 := lastW_len (u := u) (cs := cs.take i) (by
          have := okRow_app (u := u) (a := cs.take i) (b := cs.drop i)
          rw [List.take_append_drop] at this
          exact (this.mp ok).1)
        have : (cs.take i).length ≤ 40 := by rw [List.length_take]; omega
        omega
      refine ⟨_, rfl, _, rfl, _, y, cs[i], by rw [hx']; rfl, ll, okc, dp_same e3 _ _ hdy, fun t H4 e4 ht hv => q' _ H4 e4 ⟨t, _, rfl, backs_at gi, hv⟩⟩
    · -- turned round, as a tuple
      refine ⟨D, _, rfl, SqL.of hO, fun R hR => ⟨R, _, rfl, .inl ⟨SqL.of upd_same, fun T hT => ?_⟩⟩⟩
      have e4 := same_new (o := .lst outs.reverse) hR
      have e5 := same_new (o := .tup outs.reverse) hT
      have e05 := (((e1.trans e2).trans e3).trans e4).trans e5
      refine hY cs h T _ e05 ((((e1.trans e2).trans e3).trans e4).free hT) (.tup (.inl (.inl upd_same)) (dpa_of ?_ fun k v d h1 h2 => ?_))
      · rw [List.length_reverse, lo, List.length_map, wayBack, List.length_reverse, backs_len]
      · rw [List.getElem?_map] at h2
        obtain ⟨c, hc, rfl⟩ := Option.map_eq_some_iff.mp h2
        have k1 : k < cs.length := by
          have := (List.getElem?_eq_some_iff.mp h1).1
          rw [List.length_reverse] at this
          omega
        rw [List.getElem?_reverse (by omega)] at h1
        rw [wayBack, List.getElem?_reverse (by rw [backs_len]; exact k1), backs_len] at hc
        obtain ⟨t, c', rfl, r2, r3⟩ := ho _ _ h1
        rw [lo, hc] at r2
        cases r2
        exact vals_dp (.inl (.inl (e5 _ _ (e4 _ _ r3))))
end
end MN
/-! price_of: the price of a row of changes -/
namespace MN
open PySem PySem.Spec PyProof.Rows L2
def Ch5.nd (u : List Nat) : Ch5 → Nd × Nd
  | .put _ c => (none, some c)
  | .out i => (some (u.getD i 0), none)
  | .swap i c => (some (u.getD i 0), some c)
def oV : Option Int → V
  | none => .non
  | some n => .int n
theorem oV_getD {o : Option Int} : (o.map V.int).getD .non = oV o := by cases o <;> rfl
/-- the prices of the changes of a row, one by one -/
def pcs5 (r : Nd → Nd → Option Int) : List Nat → List Ch5 → List (Option Int)
  | _, [] => []
  | u, c :: cs => r (c.nd u).1 (c.nd u).2 :: pcs5 r (c.app u) cs
theorem pcs5_len {r : Nd → Nd → Option Int} : ∀ {u : List Nat} {cs : List Ch5}, (pcs5 r u cs).length = cs.length
  | u, [] => rfl
  | u, c :: cs => by
    show (pcs5 r (c.app u) cs).length + 1 = cs.length + 1
    rw [pcs5_len]
theorem pcs5_at {r : Nd → Nd → Option Int} : ∀ {u : List Nat} {cs : List Ch5} {i : Nat} {c : Ch5}, cs[i]? = some c → (pcs5 r u cs)[i]? = some (r (c.nd (lastW u (cs.take i))).1 (c.nd (lastW u (cs.take i))).2)
  | u, [], i, c, h => by cases h
  | u, d :: cs, 0, c, h => by cases h; rfl
  | u, d :: cs, i + 1, c, h => pcs5_at (u := d.app u) (cs := cs) (i := i) h
/-- the price of all, if each has one -/
def tot5 : List (Option Int) → Option Int
  | [] => some 0
  | none :: _ => none
  | some n :: l => (tot5 l).map fun m => n + m
theorem tot5_none {l : List (Option Int)} : tot5 l = none ↔ none ∈ l := by
  induction l with
  | nil => exact ⟨fun h => (nomatch h), fun h => (nomatch h)⟩
  | cons a l ih =>
    cases a with
    | none => exact ⟨fun _ => List.mem_cons_self, fun _ => rfl⟩
    | some n =>
      show (tot5 l).map _ = none ↔ _
      rw [Option.map_eq_none_iff, ih]
      simp
theorem tot5_some {l : List (Option Int)} {m : Int} (h : tot5 l = some m) : ∃ ns : List Int, l = ns.map some ∧ m = ns.sum := by
  induction l generalizing m with
  | nil => cases h; exact ⟨[], rfl, rfl⟩
  | cons a l ih =>
    cases a with
    | none => cases h
    | some n =>
      obtain ⟨k, hk, rfl⟩ := Option.map_eq_some_iff.mp (show (tot5 l).map (fun m => n + m) = some m from h)
      obtain ⟨ns, rfl, rfl⟩ := ih hk
      exact ⟨n :: ns, rfl, by rw [List.sum_cons]⟩
theorem inV_none {l : List (Option Int)} : inV .non (l.map oV) = decide (none ∈ l) := by
  induction l with
  | nil => rfl
  | cons a l ih =>
    show (eqV (oV a) .non || inV .non (l.map oV)) = _
    rw [ih]
    cases a with
    | none => simp [oV, eqV]
    | some n => simp [oV, eqV]
theorem flat_oV {l : List (Option Int)} : (l.map oV).all flatV = true := by
  rw [List.all_map, List.all_eq_true]
  intro a _
  cases a <;> rfl
theorem val_dk5 {ys : List Str} (nd : ys.Nodup) (sg : ∀ z ∈ ys, ∃ c ∈ ("abcde" : Str).cps.toList, z = ⟨#[c]⟩) (g : Str → Int) (a : Nat) : valV (dkF ys g) (.inr (sgS a)) = (if a ∈ codesOf ys then some (g (sgS a)) else none).map V.int := by
  by_cases h : a ∈ codesOf ys
  · rw [if_pos h, dkF_val nd g ((mem_codes sg).mp h)]
    rfl
  · rw [if_neg h]
    have hn : sgS a ∉ ys := fun z => h ((mem_codes sg).mpr z)
    unfold valV dkF
    cases e : (ys.map fun z => ((Sum.inr z : Key), V.int (g z))).find? (fun x => decide (x.1 = Sum.inr (sgS a))) with
    | none => rfl
    | some p =>
      have h1 := List.find?_some e
      obtain ⟨z, hz, rfl⟩ := List.mem_map.mp (List.mem_of_find?_eq_some e)
      have h2 : (Sum.inr z : Key) = Sum.inr (sgS a) := of_decide_eq_true h1
      injection h2 with h2
      rw [h2] at hz
      exact absurd hz hn
theorem val_dt5 {ps : List ((Str × Str) × Int)} (nd : (ps.map Prod.fst).Nodup) (x y : Str) : valV (dtF ps) [.inr x, .inr y] = (findP ps x y).map V.int := by
  cases e : findP ps x y with
  | some p => exact dtF_val nd ((findP_some nd).mp e)
  | none =>
    refine dtF_no fun h => ?_
    obtain ⟨q, hq, e2⟩ := List.mem_map.mp h
    have : findP ps x y = some q.2 := (findP_some nd).mpr (by rw [← e2]; exact hq)
    rw [this] at e
    cases e
section
variable {P : Program} {w : World} {K : PySem.W.Frag} {mg : Str → Option Value} {base : Heap} {Cp Cc eC eO : Addr}
def spPrc5 (K : PySem.W.Frag) (Cp : Addr) : Sp := fun vs H Q _ => ∃ (u : List Nat) (v : V) (c : Ch5) (x dx : Addr) (ys ys2 : List Str) (g o : Str → Int) (qs : List ((Str × Str) × Int)), vs = [.str (wS u), v, .ref x] ∧ u.length ≤ 5000 ∧ c.Ok u ∧ Dp K H v c.dat ∧ PrAt Cp H x dx ys ys2 g o qs ∧ PrN ys ys2 g o qs ∧
  ∀ H', Same H H' → Q (oV (rOf (codesOf ys) g o qs (c.nd u).1 (c.nd u).2)) H'
abbrev N_price_of_change : List Str := ["word", "change", "prices", "i", "sign", "kind"]
theorem sc_price_of_change : FnScope N_price_of_change ["word", "change", "prices"] (defScope (top 31)) := ⟨rfl, rfl, rfl, by decide +kernel, rfl, by decide +kernel, by decide +kernel⟩
theorem c_price_of_change (A : At K mg "price_of_change" (top 31)) (B : Blt mg) (PC : PrP K mg Cp) : Cal P w K mg base 3 "price_of_change" (spPrc5 K Cp) := by
  obtain ⟨⟨_, _, hp1, F1⟩, ⟨_, _, hp2, F2⟩, ⟨_, _, hp3, F3⟩⟩ := r_propsP (P := P) (w := w) (base := base) PC B
  refine cal_of A sc_price_of_change (fun _ _ _ _ _ _ us hl => match us, hl with | [_, _, _], _ => rfl) (fun vs H Q E h => ?_) (fun f cdv A outer s H vs Q E hr h => ?_)
  · obtain ⟨_, _, _, _, _, _, _, _, _, _, rfl, _⟩ := h; rfl
  · obtain ⟨u, v, c, x, dx, ys, ys2, g, o, qs, rfl, lu, ok, hd, hP, N, hQ⟩ := h
    refine ⟨_, (pss_one (ps_match (pv 1) (pcs_seq (K := K) rfl hr.units rfl sc_price_of_change.nd (.cons (.val (by decide +kernel)) (.cons (.cap (i := 3) rfl (Or.inl rfl) (.inl rfl)) (.cons (.cap (i := 4) rfl (Or.inl rfl) (.inl rfl)) .nil)))
        (pss_one (ps_ret (pe_dget1 (hu_of hr) (SlX.pe_propSl (E := E0) (pv 2) PC.sp.sc hp1.at_ hp1.get hp1.tak hp1.rec_ F1 (hr.mono (by decide)) (fun _ _ _ _ h => h)) (pv 4) ⟨by rfl, by rfl, by rfl, by rfl⟩)))
        (pcs_seq (K := K) rfl hr.units rfl sc_price_of_change.nd (.cons (.val (by decide +kernel)) (.cons (.cap (i := 3) rfl (Or.inl rfl) (.inl rfl)) .nil))
        (pss_one (ps_ret (pe_dget1 (hu_of hr) (SlX.pe_propSl (E := E0) (pv 2) PC.sp.sc hp2.at_ hp2.get hp2.tak hp2.rec_ F2 (hr.mono (by decide)) (fun _ _ _ _ h => h)) (pe_ix ix_str (pv 0) (pv 3) (fun _ _ => rfl)) ⟨by rfl, by rfl, by rfl, by rfl⟩)))
        (pcs_seq (K := K) rfl hr.units rfl sc_price_of_change.nd (.cons (.cap (i := 5) rfl (Or.inl rfl) (.inl rfl)) (.cons (.cap (i := 3) rfl (Or.inl rfl) (.inl rfl)) (.cons (.cap (i := 4) rfl (Or.inl rfl) (.inl rfl)) .nil)))
        (pss_one (ps_ret (pe_dget1 (hu_of hr) (SlX.pe_propSl (E := E0) (pv 2) PC.sp.sc hp3.at_ hp3.get hp3.tak hp3.rec_ F3 (hr.mono (by decide)) (fun _ _ _ _ h => h)) (pe_tup (pa_cons (pe_ix ix_str (pv 0) (pv 3) (fun _ _ => rfl)) (pa_cons (pv 4) pa_nil))) ⟨by rfl, by rfl, by rfl, by rfl⟩)))
        pcs_nil))))), ?_⟩
    have big : 100000 < sizeLine := by decide
    have two : 2 ≤ sizeLine := by decide
    have lw : (wS u).length = u.length := wS_len u
    have nd2 : ys2.Nodup := N.pm.nodup_iff.mpr N.nd
    have sg2 : ∀ z ∈ ys2, ∃ c ∈ ("abcde" : Str).cps.toList, z = ⟨#[c]⟩ := fun z hz => N.sg z (N.pm.mem_iff.mp hz)
    have cm : ∀ a, a ∈ codesOf ys2 ↔ a ∈ codesOf ys := fun a => (N.pm.map _).mem_iff
    obtain ⟨ws, hs⟩ : ∃ ws, SlX.Slt H x Cp dx ws := by
      obtain ⟨_, _, _, ws, hs, _⟩ := id hP
      exact ⟨ws, .inr hs⟩
    obtain ⟨t, rfl, ht⟩ := dp_vals hd
    refine ⟨_, rfl, ?_⟩
    cases c with
    | put i c =>
      refine case3 ht (.str _) (by decide +kernel) (fun _ => ?_) (fun e => absurd rfl e)
      refine ⟨_, rfl, x, dx, ws, rfl, hs, x, dx, ys, ys2, g, o, qs, rfl, hP, N, fun d H1 e1 hd1 => ⟨d, rfl, .inl ⟨_, .inl hd1⟩, _, rfl, _, .inl ⟨_, .inr (sgS c), .inl hd1, rfl, rfl⟩, ?_⟩⟩
      rw [val_dk5 N.nd N.sg g c, oV_getD]
      exact hQ H1 e1
    | out i =>
      have li : i < u.length := ok
      have gi := Ch5.getD_of li
      refine case_miss ht (by simp [Ch5.vals]) (case2 ht (.str _) (by decide +kernel) (fun _ => ?_) (fun e => absurd rfl e))
      refine ⟨_, rfl, x, dx, ws, rfl, hs, x, dx, ys, ys2, g, o, qs, rfl, hP, N, fun d H1 e1 hd1 => ⟨d, rfl, .inl ⟨_, .inl hd1⟩, _, rfl, _, rfl, wS u, _, _, rfl, rfl, by omega, atI_nat gi, _, .inl ⟨_, .inr (sgS (u.getD i 0)), .inl hd1, rfl, rfl⟩, ?_⟩⟩
      rw [val_dk5 nd2 sg2 o _, oV_getD]
      have := hQ H1 e1
      unfold Ch5.nd rOf at this
      simp only [cm]
      exact this
    | swap i c =>
      have li : i < u.length := ok.1
      have gi := Ch5.getD_of li
      refine case3 ht (.str _) (by decide +kernel) (fun e => ?_) (fun _ => case_miss ht (by simp [Ch5.vals]) (caseAny3 ht ?_))
      · injection e with e
        exact absurd e (by decide)
      · refine ⟨_, rfl, x, dx, ws, rfl, hs, x, dx, ys, ys2, g, o, qs, rfl, hP, N, fun d H1 e1 hd1 => ⟨d, rfl, .inr ⟨_, .inl hd1⟩, _, rfl, _, rfl, wS u, _, _, rfl, rfl, by omega, atI_nat gi, _, rfl, two, fun q hq => ?_⟩⟩
        have eq := same_new (o := .tup [.str (sgS (u.getD i 0)), .str (sgS c)]) hq
        refine ⟨_, .inr ⟨_, [.inr (sgS (u.getD i 0)), .inr (sgS c)], q, .inl (eq _ _ hd1), rfl, upd_same, rfl⟩, ?_⟩
        rw [val_dt5 N.sn, oV_getD]
        exact hQ _ (e1.trans eq)
/-- words and prices of a row -/
def spAlg5 (K : PySem.W.Frag) (Cp : Addr) : Sp := fun vs H Q _ => ∃ (u : List Nat) (p : Addr) (v : V) (cs : List Ch5) (x dx : Addr) (ys ys2 : List Str) (g o : Str → Int) (qs : List ((Str × Str) × Int)), vs = [.ref p, v, .ref x] ∧ u.length ≤ 1000 ∧ okRow u cs ∧ cs.length ≤ 40 ∧ SqL K H p (wordsV (along u cs)) ∧ Dp K H v (.tuple (cs.map Ch5.dat)) ∧ PrAt Cp H x dx ys ys2 g o qs ∧ PrN ys ys2 g o qs ∧
  ∀ q H', Same H H' → H' q = some (.lst ((pcs5 (rOf (codesOf ys) g o qs) u cs).map oV)) → Q (.ref q) H'
abbrev N_prices_along : List Str := ["words", "changes", "prices", "ahead", "change"]
theorem sc_prices_along : FnScope N_prices_along ["words", "changes", "prices"] (defScope (top 32)) := ⟨rfl, rfl, rfl, by decide +kernel, rfl, by decide +kernel, by decide +kernel⟩
theorem c_prices_along (A : At K mg "prices_along" (top 32)) (B : Blt mg) (c_price_of_change : Cal P w K mg base 3 "price_of_change" (spPrc5 K Cp)) : Cal P w K mg base 4 "prices_along" (spAlg5 K Cp) := by
  refine cal_of A sc_prices_along (fun _ _ _ _ _ _ us hl => match us, hl with | [_, _, _], _ => rfl) (fun vs H Q E h => ?_) (fun f cdv A outer s H vs Q E hr h => ?_)
  · obtain ⟨_, _, _, _, _, _, _, _, _, _, _, rfl, _⟩ := h; rfl
  · obtain ⟨u, p, v, cs, x, dx, ys, ys2, g, o, qs, rfl, lu, ok, lc, hp, hd, hP, N, hQ⟩ := h
    refine ⟨_, (pss_one (ps_ret (pe_lc (own := [("ahead", 3), ("change", 4)]) (tt := tYes) (by rfl) sc_prices_along.nd (pi_zipM false true (by rfl) B.zip (pa_cons (pv 0) (pa_cons (pv 1) pa_nil))) (blkOk_by (own := [("ahead", 3), ("change", 4)]) (N := N_prices_along) (sc := defScope (top 32)) (by decide +kernel)) (fun _ _ _ _ _ => (pg_tupK (K := K) (n := 2) rfl rfl (pgs_cons (pg_name (i := 3) sc_prices_along.nd rfl (Or.inl rfl)) (pgs_cons (pg_name (i := 4) sc_prices_along.nd rfl (Or.inl rfl)) pgs_nil)))) (fun _ _ _ _ _ => pts_nil) (fun _ _ _ _ _ => (pe_c c_price_of_change hr (by decide) (by rfl) (pa_cons (pv 3) (pa_cons (pv 4) (pa_cons (pv 2) pa_nil)))))))), ?_⟩
    cases hd with
    | @tup a xs _ ha hds =>
    have hl := dpa_len hds
    rw [List.length_map] at hl
    have lv : (wordsV (along u cs)).length = cs.length + 1 := by rw [wordsV, List.length_map, along_len]
    refine ⟨_, rfl, _, rfl, p, a, _, _, rfl, hp, ha, fun D hD => ?_⟩
    refine lc_zipR (n := cs.length) hp ha (by rw [lv, hl]; omega) (by omega) hD (fun _ _ => by kernel_rfl) (fun k v _ => ((pcs5 (rOf (codesOf ys) g o qs) u cs).map oV)[k]? = some v) (fun k v Ha Hb hk _ hr => hr) (fun i y z hy hz H3 e3 Q' q' => ?_) (fun H3 outs e3 hO lo ho => ?_)
    · have hi : i < cs.length := by
        have := (List.getElem?_eq_some_iff.mp hz).1
        omega
      have gi := List.getElem?_eq_getElem hi
      have okc := okRow_at ok gi
      have hy' : y = .str (wS (lastW u (cs.take i))) := by
        rw [wordsV, List.getElem?_map, along_at (by omega)] at hy
        cases hy
        rfl
      have hdy : Dp K H z cs[i].dat := dpa_get hds hz (by rw [List.getElem?_map, gi]; rfl)
      have ll : (lastW u (cs.take i)).length ≤ 5000 := by
        have h1 := lastW_len (u := u) (cs := cs.take i) (by
          have := okRow_app (u := u) (a := cs.take i) (b := cs.drop i)
          rw [List.take_append_drop] at this
          exact (this.mp ok).1)
        have : (cs.take i).length ≤ 40 := by rw [List.length_take]; omega
        omega
      refine ⟨_, rfl, _, rfl, _, rfl, _, z, cs[i], x, dx, ys, ys2, g, o, qs, by rw [hy']; rfl, ll, okc, dp_same e3 _ _ hdy, hP.same e3, N, fun H4 e4 => q' _ H4 e4 ?_⟩
      rw [List.getElem?_map, pcs5_at gi]
      rfl
    · refine hQ D H3 e3 ?_
      rw [hO]
      congr 2
      refine List.ext_getElem? fun k => ?_
      by_cases hk : k < outs.length
      · rw [List.getElem?_eq_getElem hk]
        exact (ho k _ (List.getElem?_eq_getElem hk)).symm
      · rw [List.getElem?_eq_none (by omega), List.getElem?_eq_none (by rw [List.length_map, pcs5_len]; omega)]
def spPrice5 (K : PySem.W.Frag) (Cp eC eO : Addr) : Sp := fun vs H Q E => ∃ (u : List Nat) (v : V) (d : PyData) (x dx : Addr) (ys ys2 : List Str) (g o : Str → Int) (qs : List ((Str × Str) × Int)), vs = [.str (wS u), v, .ref x] ∧ (∀ a ∈ u, a ∈ abc) ∧ u.length ≤ 1000 ∧ RowD K H v d ∧ PrAt Cp H x dx ys ys2 g o qs ∧ PrN ys ys2 g o qs ∧
  (∀ cs, IsRow5 u d cs → (tot5 (pcs5 (rOf (codesOf ys) g o qs) u cs) = none → ∀ H', Same H H' → E (.ref eO) none H') ∧ ∀ n, tot5 (pcs5 (rOf (codesOf ys) g o qs) u cs) = some n → ∀ H', Same H H' → Q (.int n) H') ∧ ((∀ cs, ¬ IsRow5 u d cs) → ∀ H', Same H H' → E (.ref eC) none H')
abbrev N_price_of : List Str := ["word", "changes", "prices", "words", "found"]
theorem sc_price_of : FnScope N_price_of ["word", "changes", "prices"] (defScope (top 33)) := ⟨rfl, rfl, rfl, by decide +kernel, rfl, by decide +kernel, by decide +kernel⟩
theorem x_price_of (A : At K mg "price_of" (top 33)) (B : Blt mg) (E1 : ErK K mg "InvalidOperation" eO) (c_require_word : Cal P w K mg base 2 "require_word" spReqWord) (x_require_changes : CalX P w K mg base 5 "require_changes" (spReqC5 K eC)) (c_require_pricesP : Cal P w K mg base 1 "require_prices" (spReqPrices Cp)) (c_prices_along : Cal P w K mg base 4 "prices_along" (spAlg5 K Cp)) : CalX P w K mg base 6 "price_of" (spPrice5 K Cp eC eO) := by
  refine calX_of A sc_price_of (fun _ _ _ _ _ _ us hl => match us, hl with | [_, _, _], _ => rfl) (fun vs H Q E h => ?_) (fun _ cdv A outer s H vs Q E hr h => ?_)
  · obtain ⟨_, _, _, _, _, _, _, _, _, _, rfl, _⟩ := h; rfl
  · obtain ⟨u, v, d, x, dx, ys, ys2, g, o, qs, rfl, su, lu, hd, hP, N, hY, hN⟩ := h
    refine ⟨_, (pss_cons (ps_expr (pe_c c_require_word hr (by decide) (by rfl) (pa_cons (pv 0) pa_nil)))
      (pss_cons (ps_set (i := 3) sc_price_of.nd rfl (Or.inl rfl) (pe_cX x_require_changes (takes_of rfl rfl rfl rfl) hr (by decide) (by rfl) (pa_cons (pv 0) (pa_cons (pv 1) pa_nil))))
      (pss_cons (ps_expr (pe_c c_require_pricesP hr (by decide) (by rfl) (pa_cons (pv 2) pa_nil)))
      (pss_cons (ps_set (i := 4) sc_price_of.nd rfl (Or.inl rfl) (pe_c c_prices_along hr (by decide) (by rfl) (pa_cons (pv 3) (pa_cons (pv 1) (pa_cons (pv 2) pa_nil)))))
      (pss_cons (ps_if (pt_cmpR op_in_seq pe_non (pv 4) (by rfl)) (pss_one (ps_raise rfl (takes_of rfl rfl rfl rfl) (pmk_k E1 (by rfl)))) pss_nil)
      (pss_one (ps_ret (pe_callB (cr_sum rfl) (by rfl) B.sum (by decide +kernel) (pa_cons (pv 4) pa_nil))))))))), ?_⟩
    refine ⟨_, rfl, u, rfl, su, lu, fun H1 e1 => ⟨_, rfl, _, rfl, u, v, d, rfl, lu, hd.same e1, fun cs h p H2 e2 hp => ?_, fun h H' e => hN h H' (e1.trans e)⟩⟩
    have ok := h.1
    rcases hd with ⟨hd, sb, ln⟩ | ⟨_, _, _, e⟩
    case inr =>
      have := h.2
      rw [e] at this
      cases this
    have hd2 := dp_same (e1.trans e2) _ _ hd
    rw [h.2] at hd2
    have lc : cs.length ≤ 40 := by
      have := ln _ h.2
      rwa [List.length_map] at this
    have e12 := e1.trans e2
    obtain ⟨y1, y2⟩ := hY cs h
    refine ⟨_, rfl, x, dx, ys, ys2, g, o, qs, rfl, hP.same e12, _, rfl, _, rfl, _, rfl, u, p, v, cs, x, dx, ys, ys2, g, o, qs, rfl, lu, ok, lc, SqL.of hp, hd2, hP.same e12, N, fun q H3 e3 hq => ?_⟩
    refine ⟨_, rfl, q, _, rfl, .inl (SqL.of hq), rfl, flat_oV, _, rfl, ?_⟩
    show if inV .non _ = true then _ else _
    rw [inV_none]
    by_cases hn : none ∈ pcs5 (rOf (codesOf ys) g o qs) u cs
    · rw [decide_eq_true hn]
      exact iteT (y1 (tot5_none.mpr hn) H3 (e12.trans e3))
    · rw [decide_eq_false hn]
      have hs : ∃ n, tot5 (pcs5 (rOf (codesOf ys) g o qs) u cs) = some n := by
        cases ht : tot5 (pcs5 (rOf (codesOf ys) g o qs) u cs) with
        | none => exact absurd (tot5_none.mp ht) hn
        | some n => exact ⟨n, rfl⟩
      obtain ⟨n, hn2⟩ := hs
      obtain ⟨ns, h1, h2⟩ := tot5_some hn2
      refine iteF ⟨_, rfl, q, ns, rfl, ?_, ?_⟩
      · refine SqL.of ?_
        rw [hq, h1, List.map_map]
        rfl
      · rw [← h2]
        exact y2 n hn2 H3 (e12.trans e3)
end
end MN
/-! _law_made: a change is made, or it cannot be made, by the law's own steps -/
namespace MN
open PySem PySem.Spec PyProof.Rows L2
theorem u65 {k : Nat} {A : Around} (r : Room k A) : A.units + 65 < cLine := by have := r.un; omega
def isStrD (d : PyData) (z : Str) : Bool := match d with
  | .str y => decide (y = z)
  | _ => false
theorem isStrD_yes {d : PyData} {z : Str} (h : isStrD d z = true) : d = .str z := by
  cases d with
  | str y => rw [of_decide_eq_true h]
  | _ => cases h
theorem isStrD_no {d : PyData} {z : Str} (h : isStrD d z = false) : d ≠ .str z := fun e => by
  rw [e] at h
  exact absurd rfl (of_decide_eq_false h)
theorem isStrD_self {z : Str} : isStrD (.str z) z = true := decide_eq_true rfl
theorem eqv_is {d : PyData} {z : Str} : PyData.eqv d (.str z) = isStrD d z := by
  cases d with
  | str y => by_cases h : y = z <;> simp [PyData.eqv, isStrD, h]
  | _ => simp [PyData.eqv, isStrD]
theorem eqv_si {d : PyData} {z : Str} : PyData.eqv (.str z) d = isStrD d z := by
  cases d with
  | str y =>
    by_cases h : y = z
    · simp [PyData.eqv, isStrD, h]
    · have h2 : ¬ z = y := fun e => h e.symm
      simp [PyData.eqv, isStrD, h, h2]
  | _ => simp [PyData.eqv, isStrD]
/-- is it one of these texts? -/
theorem any_str {d : PyData} {zs : List Str} : ((zs.map PyData.str).any fun z => PyData.eqv z d) = zs.any fun z => isStrD d z := by
  rw [List.any_map]
  congr 1
  funext z
  exact eqv_si
theorem PE.imp5 {X : Cx} {e : Expr} {t t' : TE} (h : PE X e t) (i : ∀ σ H Q, t' σ H Q → t σ H Q) : PE X e t' := ⟨fun pins s σ H Q I q => h.run pins s σ H Q I (i _ _ _ q)⟩
theorem PT.imp5 {X : Cx} {e : Expr} {t t' : TT} (h : PT X e t) (i : ∀ σ H Q, t' σ H Q → t σ H Q) : PT X e t' := ⟨fun pins s σ H Q I q => h.run pins s σ H Q I (i _ _ _ q)⟩
/-- whether the first item of the tuple is the text -/
def tIs (K : PySem.W.Frag) (i : Nat) (z : Str) : TE := fun σ H Q => ∃ a xs x0 d0, σ[i]? = some (some (.ref a)) ∧ SqT K H a xs ∧ xs[0]? = some x0 ∧ Dp K H x0 d0 ∧ SeqAt.shaped d0 = true ∧ Q (.bl (isStrD d0 z)) H
theorem iteN {b : Bool} {A B : Prop} (h : b = false) (q : B) : if b = true then A else B := by
  rw [h]
  exact iteF q
theorem iteY {b : Bool} {A B : Prop} (h : b = true) (q : A) : if b = true then A else B := by
  rw [h]
  exact iteT q
def isIntD : PyData → Bool
  | .int _ => true
  | .bool _ => true
  | _ => false
theorem dp_isI {K : PySem.W.Frag} {H : Hp} {v : V} {d : PyData} (h : Dp K H v d) : IsX K H v "int" (isIntD d) := by
  cases d with
  | none => exact dp_isX (t := "NoneType") (b := false) h rfl (by decide +kernel)
  | bool _ => exact dp_isX (t := "bool") (b := true) h rfl (by decide +kernel)
  | int _ => exact dp_isX (t := "int") (b := true) h rfl (by decide +kernel)
  | str _ => exact dp_isX (t := "str") (b := false) h rfl (by decide +kernel)
  | list _ => exact dp_isX (t := "list") (b := false) h rfl (by decide +kernel)
  | tuple _ => exact dp_isX (t := "tuple") (b := false) h rfl (by decide +kernel)
  | dict _ => exact dp_isX (t := "dict") (b := false) h rfl (by decide +kernel)
def isBoolD : PyData → Bool
  | .bool _ => true
  | _ => false
theorem dp_isB {K : PySem.W.Frag} {H : Hp} {v : V} {d : PyData} (h : Dp K H v d) : IsX K H v "bool" (isBoolD d) := by
  cases d with
  | none => exact dp_isX (t := "NoneType") (b := false) h rfl (by decide +kernel)
  | bool _ => exact dp_isX (t := "bool") (b := true) h rfl (by decide +kernel)
  | int _ => exact dp_isX (t := "int") (b := false) h rfl (by decide +kernel)
  | str _ => exact dp_isX (t := "str") (b := false) h rfl (by decide +kernel)
  | list _ => exact dp_isX (t := "list") (b := false) h rfl (by decide +kernel)
  | tuple _ => exact dp_isX (t := "tuple") (b := false) h rfl (by decide +kernel)
  | dict _ => exact dp_isX (t := "dict") (b := false) h rfl (by decide +kernel)
theorem abc_any {d : PyData} : ((abc.map sgS).any fun z => isStrD d z) = signD d := by
  cases h : signD d with
  | true =>
    obtain ⟨c, hc, rfl⟩ := sign_yes h
    exact List.any_eq_true.mpr ⟨sgS c, List.mem_map.mpr ⟨c, hc, rfl⟩, isStrD_self⟩
  | false =>
    refine List.any_eq_false.mpr fun z hz => ?_
    obtain ⟨c, hc, rfl⟩ := List.mem_map.mp hz
    intro e
    rw [isStrD_yes e, sign_of hc] at h
    cases h
theorem signs_abc : signsOf "abcde" = (abc.map sgS).map V.str := by
  unfold signsOf
  rw [List.map_map]
  rfl
theorem abc_shaped : SeqAt.shaped (.list ((abc.map sgS).map PyData.str)) = true := by decide +kernel
theorem place_int {d : PyData} {n : Int} (h : isIntD d = false) : placeD d n = false := by
  cases d <;> first | rfl | cases h
theorem place_bool {d : PyData} {n : Int} (h : isBoolD d = true) : placeD d n = false := by
  cases d <;> first | rfl | cases h
theorem int_of {d : PyData} (h : isIntD d = true) (h2 : isBoolD d = false) : ∃ k : Int, d = .int k := by
  cases d with
  | int k => exact ⟨k, rfl⟩
  | bool b => cases h2
  | _ => cases h
theorem inV23 {n : Nat} (h2 : n ≠ 2) (h3 : n ≠ 3) : inV (.int ((n : Nat) : Int)) [.int 2, .int 3] = false := by
  have a2 : ((2 : Int) == ((n : Nat) : Int)) = false := by simp; omega
  have a3 : ((3 : Int) == ((n : Nat) : Int)) = false := by simp; omega
  show (((2 : Int) == ((n : Nat) : Int)) || (((3 : Int) == ((n : Nat) : Int)) || false)) = false
  rw [a2, a3]
  rfl
theorem at_zero {xs : List V} {x : V} (h : xs[0]? = some x) : atI xs 0 = some x := atI_nat (j := 0) h
theorem imp_is {K : PySem.W.Frag} {i : Nat} {z : Str} (hz : SeqAt.shaped (.str z) = true) : ∀ σ H Q, tIs K i z σ H Q → tOp (rEqD K) (tOp (rIxT K) (tVar i) (tC (.int 0))) (tC (.str z)) σ H Q := fun σ H Q h => by
  obtain ⟨a, xs, x0, d0, h1, h2, h3, h4, h5, q⟩ := h
  exact ⟨_, h1, a, xs, 0, x0, rfl, rfl, h2, at_zero h3, d0, .str z, h4, .str z, h5, hz, by rw [eqv_is]; exact q⟩
section
variable {P : Program} {w : World} {K : PySem.W.Frag} {mg : Str → Option Value} {base : Heap}
abbrev N_law_made5 : List Str := ["_law_word", "_law_change", "_law_at", "_law_room", "_law_rest"]
theorem sc_law_made5 : FnScope N_law_made5 ["_law_word", "_law_change"] (defScope (top 44)) := ⟨rfl, rfl, rfl, by decide +kernel, rfl, by decide +kernel, by decide +kernel⟩
theorem c_law_made5 (A : At K mg "_law_made" (top 44)) (B : Blt mg) : Cal P w K mg base 1 "_law_made" (spMade5 K) := by
  refine cal_of A sc_law_made5 (fun _ _ _ _ _ _ us hl => match us, hl with | [_, _], _ => rfl) (fun vs H Q E h => ?_) (fun f cdv A outer s H vs Q E hr h => ?_)
  · obtain ⟨_, _, _, rfl, _⟩ := h; rfl
  · obtain ⟨u, v, d, rfl, lu, hd, sb, hY, hN⟩ := h
    refine ⟨_, (pss_cons (ps_if (PW.pt (pw_or (pt_not (pt_val (pe_callB call_isS (by rfl) B.isinstance (by decide +kernel) (pa_cons (pv 1) (pa_cons (pe_bltn (v := .ty "tuple") (by rfl) B.tuple (by decide +kernel) rfl) pa_nil))))) (pw_or (pt_cmpR op_notIn_seq (pe_callB call_len_seq (by rfl) B.len (by decide +kernel) (pa_cons (pv 1) pa_nil)) (pe_tup (pa_cons pe_int (pa_cons pe_int pa_nil))) (by rfl)) (pw_or1 (pt_cmpR (op_notInD (u65 hr)) (pe_ix ix_tup (pv 1) pe_int (fun _ _ => rfl)) (pe_lst (pa_cons pe_str (pa_cons pe_str (pa_cons pe_str pa_nil)))) (by rfl)))))) (pss_one (ps_ret pe_non)) pss_nil)
      (pss_cons (ps_if (PW.pt (pw_or (pt_cmpR op_ne (pe_callB call_len_seq (by rfl) B.len (by decide +kernel) (pa_cons (pv 1) pa_nil)) (pe_ifExp (PT.imp5 (t' := tB (tIs K 1 "out")) (pt_cmpR (op_eqD hr.units) (pe_ix ix_tup (pv 1) pe_int (fun _ _ => rfl)) pe_str (nomark _)) (fun σ H Q => imp_is (by decide +kernel) σ H _)) pe_int pe_int) (nomark _)) (pw_or1 (pt_not (pt_val (pe_callB call_isS (by rfl) B.isinstance (by decide +kernel) (pa_cons (pe_ix ix_tup (pv 1) pe_int (fun _ _ => rfl)) (pa_cons (pe_bltn (v := .ty "int") (by rfl) B.int (by decide +kernel) rfl) pa_nil)))))))) (pss_one (ps_ret pe_non)) pss_nil)
      (pss_cons (ps_par (i := 2) (j := 3) (by rfl) sc_law_made5.nd rfl rfl (by decide) rfl rfl (pa_cons (pe_ix ix_tup (pv 1) pe_int (fun _ _ => rfl)) (pa_cons (pe_op op_add (pe_callB call_len_str (by rfl) B.len (by decide +kernel) (pa_cons (pv 0) pa_nil)) (pe_callTy call_int1 (by rfl) B.int (by decide +kernel) (pa_cons (PE.imp5 (t' := tIs K 1 "put") (pe_cmpR (op_eqD hr.units) (pe_ix ix_tup (pv 1) pe_int (fun _ _ => rfl)) pe_str (nomark _)) (imp_is (by decide +kernel))) pa_nil))) pa_nil)) (by rfl))
      (pss_cons (ps_if (PW.pt (pw_or (pt_val (pe_callB call_isS (by rfl) B.isinstance (by decide +kernel) (pa_cons (pv 2) (pa_cons (pe_bltn (v := .ty "bool") (by rfl) B.bool (by decide +kernel) rfl) pa_nil)))) (pw_or1 (pt_not (pt_chain op_le op_lt pe_int (pv 2) (pv 3)))))) (pss_one (ps_ret pe_non)) pss_nil)
      (pss_cons (ps_if (PT.imp5 (t' := tB (tIs K 1 "out")) (pt_cmpR (op_eqD hr.units) (pe_ix ix_tup (pv 1) pe_int (fun _ _ => rfl)) pe_str (nomark _)) (fun σ H Q => imp_is (by decide +kernel) σ H _)) (pss_one (ps_ret (pe_op op_add_str (pe_slice sl_str (pv 0) po_none (po_some (pv 2))) (pe_slice sl_str (pv 0) (po_some (pe_op op_add (pv 2) pe_int)) po_none)))) pss_nil)
      (pss_cons (ps_if (PW.pt (pw_or (pt_cmpR (op_notInD (u65 hr)) (pe_ix ix_tup (pv 1) pe_int (fun _ _ => rfl)) (pe_callTy (call_listS rfl) (by rfl) B.list (by decide +kernel) (pa_cons pe_str pa_nil)) (by rfl)) (pw_or1 (PW.pt (pw_and (PT.imp5 (t' := tB (tIs K 1 "swap")) (pt_cmpR (op_eqD hr.units) (pe_ix ix_tup (pv 1) pe_int (fun _ _ => rfl)) pe_str (nomark _)) (fun σ H Q => imp_is (by decide +kernel) σ H _)) (pw_and1 (pt_cmpR op_eq (pe_ix ix_tup (pv 1) pe_int (fun _ _ => rfl)) (pe_ix ix_str (pv 0) (pv 2) (fun _ _ => rfl)) (nomark _)))))))) (pss_one (ps_ret pe_non)) pss_nil)
      (pss_cons (ps_set (i := 4) sc_law_made5.nd rfl (Or.inl rfl) (pe_ifExp (PT.imp5 (t' := tB (tIs K 1 "swap")) (pt_cmpR (op_eqD hr.units) (pe_ix ix_tup (pv 1) pe_int (fun _ _ => rfl)) pe_str (nomark _)) (fun σ H Q => imp_is (by decide +kernel) σ H _)) (pe_slice sl_str (pv 0) (po_some (pe_op op_add (pv 2) pe_int)) po_none) (pe_slice sl_str (pv 0) (po_some (pv 2)) po_none)))
      (pss_one (ps_ret (pe_op op_add_str (pe_op op_add_str (pe_slice sl_str (pv 0) po_none (po_some (pv 2))) (pe_ix ix_tup (pv 1) pe_int (fun _ _ => rfl))) (pv 4))))))))))), ?_⟩
    have big : 100000 < sizeLine := by decide
    have two : 2 ≤ sizeLine := by decide
    have three : 3 ≤ sizeLine := by decide
    have lw : (wS u).length = u.length := wS_len u
    have lc : ∀ lo hi, (cutS (wS u) lo hi).length ≤ 5000 := fun lo hi => Nat.le_trans cutS_le (by omega)
    refine ⟨_, rfl, v, "tuple", isTD d, rfl, dp_isT hd, _, rfl, ?_⟩
    cases hi : isTD d with
    | false => exact iteT (iteT (hN (no_tup hi) H (Same.refl _)))
    | true =>
    refine iteF ?_
    cases hd with
    | non => cases hi
    | bl b => cases hi
    | int i => cases hi
    | str z => cases hi
    | lst h1 h2 => cases hi
    | @tup a xs ds ha hds =>
    have sbi := sb_item sb
    have shi : ∀ d ∈ ds, SeqAt.shaped d = true := fun d hd => (sbi d hd).shaped (by decide)
    have hl := dpa_len hds
    have pp : isStrD (.str "put") "put" = true := isStrD_self
    have po : isStrD (.str "put") "out" = false := by decide +kernel
    have ps : isStrD (.str "put") "swap" = false := by decide +kernel
    have sp : isStrD (.str "swap") "put" = false := by decide +kernel
    have so : isStrD (.str "swap") "out" = false := by decide +kernel
    have ss : isStrD (.str "swap") "swap" = true := isStrD_self
    have op : isStrD (.str "out") "put" = false := by decide +kernel
    have oo : isStrD (.str "out") "out" = true := isStrD_self
    have os : isStrD (.str "out") "swap" = false := by decide +kernel
    have num : ∀ (x1 : V) (d1 : PyData) (n : Int), isIntD d1 = true → isBoolD d1 = false → ∃ k : Int, d1 = .int k := fun _ _ _ h h2 => int_of h h2
    have pre : (∀ c : Ch5, c.Ok u → PyData.tuple ds ≠ c.dat) → ∀ H', Same H H' → Q .non H' := hN
    match ds, xs, hds, hl with
    | [d0, d1, d2], [x0, x1, x2], .cons h0 (.cons h1 (.cons h2 .nil)), _ =>
      have s0 := shi d0 (by simp)
      have s2 := shi d2 (by simp)
      refine ⟨_, rfl, a, _, rfl, .inr ha, two, fun q hq => ⟨q, _, rfl, .inr (.inl (.inl upd_same)), rfl, rfl, _, rfl, iteF ?_⟩⟩
      have e1 := same_new (o := .tup [.int 2, .int 3]) hq
      generalize upd H q (.tup [.int 2, .int 3]) = H1 at e1 ⊢
      refine ⟨_, rfl, a, _, _, _, rfl, rfl, Same.seqT e1 ha, at_zero rfl, three, fun l hl => ?_⟩
      obtain ⟨e2, u2⟩ := laid (.lst [.str "put", .str "out", .str "swap"]) hl
      generalize upd H1 l (.lst [.str "put", .str "out", .str "swap"]) = H2 at e2 u2 ⊢
      have e12 := e1.trans e2
      replace ha := Same.seqT e12 ha
      replace h0 := dp_same e12 _ _ h0
      replace h1 := dp_same e12 _ _ h1
      replace h2 := dp_same e12 _ _ h2
      refine ⟨d0, (["put", "out", "swap"] : List Str).map PyData.str, h0, dpL (zs := ["put", "out", "swap"]) (SqL.of u2), s0, by decide +kernel, _, rfl, ?_⟩
      rw [any_str]
      cases hb : (["put", "out", "swap"] : List Str).any (fun z => isStrD d0 z) with
      | false =>
        have hb' := List.any_eq_false.mp hb
        exact iteT (hN (no_3 (isStrD_no (by simpa using hb' "put" (by simp))) (isStrD_no (by simpa using hb' "swap" (by simp)))) H2 e12)
      | true =>
      refine iteF ?_
      have at1 : atI [x0, x1, x2] 1 = some x1 := atI_nat (j := 1) rfl
      have at2 : atI [x0, x1, x2] 2 = some x2 := atI_nat (j := 2) rfl
      obtain ⟨z, hz, hd0⟩ := List.any_eq_true.mp hb
      have hd0' := isStrD_yes hd0
      simp only [List.mem_cons, List.not_mem_nil, or_false] at hz
      -- the number
      have test2 : ∀ (A B : Prop), d0 = .str "put" ∨ d0 = .str "swap" → (isIntD d1 = false → A) → (isIntD d1 = true → B) → if (!isIntD d1) = true then A else B := fun A B _ h1 h2 => by
        cases hI : isIntD d1 with
        | false => exact iteT (h1 hI)
        | true => exact iteF (h2 hI)
      rcases hz with rfl | rfl | rfl
      · -- put
        subst hd0'
        refine ⟨_, rfl, a, _, rfl, .inr ha, a, _, _, _, rfl, ha, rfl, h0, s0, _, rfl, iteN po ⟨rfl, _, rfl, iteN rfl ?_⟩⟩
        refine ⟨_, rfl, a, _, _, x1, rfl, rfl, ha, at1, x1, "int", isIntD d1, rfl, dp_isI h1, _, rfl, test2 _ _ (.inl rfl) (fun hI => hN (no_put (by rw [place_int hI]; rfl)) H2 e12) fun hI => ?_⟩
        refine ⟨_, rfl, a, _, _, x1, rfl, rfl, ha, at1, _, rfl, wS u, rfl, by omega, a, _, _, _, rfl, ha, rfl, h0, s0, .inr ⟨_, rfl, _, _, rfl, rfl, _, _, rfl, ?_⟩⟩
        refine ⟨_, rfl, x1, "bool", isBoolD d1, rfl, dp_isB h1, _, rfl, ?_⟩
        cases hB : isBoolD d1 with
        | true => exact iteT (hN (no_put (by rw [place_bool hB]; rfl)) H2 e12)
        | false =>
        refine iteF ?_
        obtain ⟨k, rfl⟩ := int_of hI hB
        cases h1
        refine ⟨_, rfl, _, _, rfl, rfl, _, rfl, ?_⟩
        by_cases k0 : 0 ≤ k
        case neg =>
          rw [decide_eq_false k0]
          exact iteF ⟨_, rfl, iteT (hN (no_put (by simp [placeD, k0])) H2 e12)⟩
        rw [decide_eq_true k0]
        refine iteT ⟨_, rfl, _, _, rfl, rfl, _, rfl, ?_⟩
        rw [pp, lw]
        by_cases k1 : k < ((u.length : Nat) : Int) + (if true = true then 1 else 0)
        case neg =>
          rw [decide_eq_false k1]
          refine iteT (hN (no_put ?_) H2 e12)
          have : placeD (.int k) (((u.length : Nat) : Int) + 1) = false := by
            simp only [placeD, Bool.and_eq_false_iff, decide_eq_false_iff_not]
            exact .inr k1
          rw [this]
          rfl
        rw [decide_eq_true k1]
        refine iteF ?_
        obtain ⟨i, rfl⟩ : ∃ i : Nat, k = ((i : Nat) : Int) := ⟨k.toNat, by omega⟩
        have li : i ≤ u.length := by
          simp only [if_true] at k1
          omega
        refine ⟨a, _, _, _, rfl, ha, rfl, h0, s0, _, rfl, iteN po ?_⟩
        refine ⟨_, rfl, a, _, _, x2, rfl, rfl, ha, at2, "abcde", rfl, by decide, fun l2 hl2 => ?_⟩
        obtain ⟨e3, u3⟩ := laid (.lst (signsOf "abcde")) hl2
        generalize upd H2 l2 (.lst (signsOf "abcde")) = H3 at e3 u3 ⊢
        rw [signs_abc] at u3
        have e13 := e12.trans e3
        replace ha := Same.seqT e3 ha
        replace h0 := dp_same e3 _ _ h0
        replace h2 := dp_same e3 _ _ h2
        refine ⟨d2, _, h2, dpL (SqL.of u3), s2, abc_shaped, _, rfl, ?_⟩
        rw [any_str, abc_any]
        cases hs : signD d2 with
        | false => exact iteT (hN (no_put (by rw [hs, Bool.and_false])) H3 e13)
        | true =>
        refine iteF ?_
        obtain ⟨c, hc, rfl⟩ := sign_yes hs
        cases h2
        refine ⟨a, _, _, _, rfl, ha, rfl, h0, s0, _, rfl, iteN ps ?_⟩
        refine ⟨a, _, _, _, rfl, ha, rfl, h0, s0, _, rfl, iteN ps ⟨_, rfl, _, rfl, _, rfl, _, rfl, by omega, ?_⟩⟩
        have l1 : (cutS (wS u) none (some (i : Int)) ++ sgS c : Str).length ≤ 5001 := by
          rw [strLen_append]
          have := lc none (some (i : Int))
          show _ + 1 ≤ _
          omega
        refine ⟨_, rfl, _, rfl, _, rfl, _, rfl, by omega, _, rfl, a, _, _, _, rfl, rfl, ha, atI_nat (j := 2) rfl, _, _, rfl, rfl, ?_, _, rfl, _, _, rfl, rfl, ?_, ?_⟩
        · rw [← strLen_append]
          omega
        · have := lc (some (i : Int)) none
          omega
        · rw [cutTo5 u li, cutFrom5 u li]
          have e : (wS (u.take i) ++ sgS c ++ wS (u.drop i) : Str) = wS ((Ch5.put i c).app u) := by
            rw [show sgS c = wS [c] from rfl, wS_app, wS_app, List.append_assoc]
            rfl
          rw [e]
          exact hY (.put i c) ⟨li, hc⟩ rfl H3 e13
      · -- out, of three
        subst hd0'
        refine ⟨_, rfl, a, _, rfl, .inr ha, a, _, _, _, rfl, ha, rfl, h0, s0, _, rfl, iteY oo ⟨rfl, _, rfl, iteY rfl ?_⟩⟩
        exact hN (no_3 (fun e => by injection e with e; exact absurd e (by decide)) (fun e => by injection e with e; exact absurd e (by decide))) H2 e12
      · -- swap
        subst hd0'
        refine ⟨_, rfl, a, _, rfl, .inr ha, a, _, _, _, rfl, ha, rfl, h0, s0, _, rfl, iteN so ⟨rfl, _, rfl, iteN rfl ?_⟩⟩
        refine ⟨_, rfl, a, _, _, x1, rfl, rfl, ha, at1, x1, "int", isIntD d1, rfl, dp_isI h1, _, rfl, test2 _ _ (.inr rfl) (fun hI => hN (no_swap fun i c e _ _ => by rw [e] at hI; cases hI) H2 e12) fun hI => ?_⟩
        refine ⟨_, rfl, a, _, _, x1, rfl, rfl, ha, at1, _, rfl, wS u, rfl, by omega, a, _, _, _, rfl, ha, rfl, h0, s0, .inr ⟨_, rfl, _, _, rfl, rfl, _, _, rfl, ?_⟩⟩
        refine ⟨_, rfl, x1, "bool", isBoolD d1, rfl, dp_isB h1, _, rfl, ?_⟩
        cases hB : isBoolD d1 with
        | true => exact iteT (hN (no_swap fun i c e _ _ => by rw [e] at hB; cases hB) H2 e12)
        | false =>
        refine iteF ?_
        obtain ⟨k, rfl⟩ := int_of hI hB
        cases h1
        refine ⟨_, rfl, _, _, rfl, rfl, _, rfl, ?_⟩
        by_cases k0 : 0 ≤ k
        case neg =>
          rw [decide_eq_false k0]
          exact iteF ⟨_, rfl, iteT (hN (no_swap fun i c e _ _ => by injection e with e; omega) H2 e12)⟩
        rw [decide_eq_true k0]
        refine iteT ⟨_, rfl, _, _, rfl, rfl, _, rfl, ?_⟩
        rw [sp, lw]
        by_cases k1 : k < ((u.length : Nat) : Int) + (if false = true then 1 else 0)
        case neg =>
          rw [decide_eq_false k1]
          refine iteT (hN (no_swap fun i c e _ ok => ?_) H2 e12)
          have h1 : i < u.length := ok.1
          injection e with e
          exact k1 (by show k < ((u.length : Nat) : Int) + 0; omega)
        rw [decide_eq_true k1]
        refine iteF ?_
        obtain ⟨i, rfl⟩ : ∃ i : Nat, k = ((i : Nat) : Int) := ⟨k.toNat, by omega⟩
        have li : i < u.length := by
          have : ((i : Nat) : Int) < ((u.length : Nat) : Int) + 0 := k1
          omega
        have gi := List.getElem?_eq_getElem li
        refine ⟨a, _, _, _, rfl, ha, rfl, h0, s0, _, rfl, iteN so ?_⟩
        refine ⟨_, rfl, a, _, _, x2, rfl, rfl, ha, at2, "abcde", rfl, by decide, fun l2 hl2 => ?_⟩
        obtain ⟨e3, u3⟩ := laid (.lst (signsOf "abcde")) hl2
        generalize upd H2 l2 (.lst (signsOf "abcde")) = H3 at e3 u3 ⊢
        rw [signs_abc] at u3
        have e13 := e12.trans e3
        replace ha := Same.seqT e3 ha
        replace h0 := dp_same e3 _ _ h0
        replace h2 := dp_same e3 _ _ h2
        refine ⟨d2, _, h2, dpL (SqL.of u3), s2, abc_shaped, _, rfl, ?_⟩
        rw [any_str, abc_any]
        cases hs : signD d2 with
        | false => exact iteT (hN (no_swap fun i c _ e ok => by rw [e, sign_of ok.2.1] at hs; cases hs) H3 e13)
        | true =>
        refine iteF ?_
        obtain ⟨c, hc, rfl⟩ := sign_yes hs
        cases h2
        refine ⟨a, _, _, _, rfl, ha, rfl, h0, s0, _, rfl, iteY ss ?_⟩
        refine ⟨_, rfl, a, _, _, _, rfl, rfl, ha, at2, _, rfl, _, rfl, wS u, _, u[i], rfl, rfl, by omega, atI_nat gi, rfl, _, rfl, ?_⟩
        by_cases hne : u[i] = c
        · refine iteY (decide_eq_true (by rw [hne]; rfl)) (hN (no_swap fun i' c' e1 e2 ok => ?_) H3 e13)
          have ei : i = i' := by injection e1 with e1; omega
          have ec : c = c' := by injection e2 with e2; exact congrArg codeOf e2
          subst ei ec
          exact ok.2.2 (by rw [gi, hne])
        refine iteN (decide_eq_false fun e => hne (by injection e with e; exact (congrArg codeOf e).symm)) ?_
        refine ⟨a, _, _, _, rfl, ha, rfl, h0, s0, _, rfl, iteY ss ⟨_, rfl, _, rfl, _, _, rfl, rfl, _, rfl, _, rfl, by omega, ?_⟩⟩
        have l1 : (cutS (wS u) none (some (i : Int)) ++ sgS c : Str).length ≤ 5001 := by
          rw [strLen_append]
          have := lc none (some (i : Int))
          show _ + 1 ≤ _
          omega
        refine ⟨_, rfl, _, rfl, _, rfl, _, rfl, by omega, _, rfl, a, _, _, _, rfl, rfl, ha, atI_nat (j := 2) rfl, _, _, rfl, rfl, ?_, _, rfl, _, _, rfl, rfl, ?_, ?_⟩
        · rw [← strLen_append]
          omega
        · have := lc (some ((i : Int) + 1)) none
          omega
        · rw [cutTo5 u (by omega), cutBehind5 u li]
          have e : (wS (u.take i) ++ sgS c ++ wS (u.drop (i + 1)) : Str) = wS ((Ch5.swap i c).app u) := by
            rw [show sgS c = wS [c] from rfl, wS_app, wS_app, List.append_assoc]
            rfl
          rw [e]
          exact hY (.swap i c) ⟨li, hc, by rw [gi]; exact fun z => hne (Option.some.inj z)⟩ rfl H3 e13
    | [d0, d1], [x0, x1], .cons h0 (.cons h1 .nil), _ =>
      have s0 := shi d0 (by simp)
      refine ⟨_, rfl, a, _, rfl, .inr ha, two, fun q hq => ⟨q, _, rfl, .inr (.inl (.inl upd_same)), rfl, rfl, _, rfl, iteF ?_⟩⟩
      have e1 := same_new (o := .tup [.int 2, .int 3]) hq
      generalize upd H q (.tup [.int 2, .int 3]) = H1 at e1 ⊢
      refine ⟨_, rfl, a, _, _, _, rfl, rfl, Same.seqT e1 ha, at_zero rfl, three, fun l hl => ?_⟩
      obtain ⟨e2, u2⟩ := laid (.lst [.str "put", .str "out", .str "swap"]) hl
      generalize upd H1 l (.lst [.str "put", .str "out", .str "swap"]) = H2 at e2 u2 ⊢
      have e12 := e1.trans e2
      replace ha := Same.seqT e12 ha
      replace h0 := dp_same e12 _ _ h0
      replace h1 := dp_same e12 _ _ h1
      refine ⟨d0, (["put", "out", "swap"] : List Str).map PyData.str, h0, dpL (zs := ["put", "out", "swap"]) (SqL.of u2), s0, by decide +kernel, _, rfl, ?_⟩
      rw [any_str]
      cases hb : (["put", "out", "swap"] : List Str).any (fun z => isStrD d0 z) with
      | false =>
        have hb' := List.any_eq_false.mp hb
        exact iteT (hN (no_2 (isStrD_no (by simpa using hb' "out" (by simp)))) H2 e12)
      | true =>
      refine iteF ?_
      have at1 : atI [x0, x1] 1 = some x1 := atI_nat (j := 1) rfl
      obtain ⟨z, hz, hd0⟩ := List.any_eq_true.mp hb
      have hd0' := isStrD_yes hd0
      simp only [List.mem_cons, List.not_mem_nil, or_false] at hz
      rcases hz with rfl | rfl | rfl
      · subst hd0'
        refine ⟨_, rfl, a, _, rfl, .inr ha, a, _, _, _, rfl, ha, rfl, h0, s0, _, rfl, iteN po ⟨rfl, _, rfl, iteY rfl ?_⟩⟩
        exact hN (no_2 (fun e => by injection e with e; exact absurd e (by decide))) H2 e12
      · subst hd0'
        refine ⟨_, rfl, a, _, rfl, .inr ha, a, _, _, _, rfl, ha, rfl, h0, s0, _, rfl, iteY oo ⟨rfl, _, rfl, iteN rfl ?_⟩⟩
        refine ⟨_, rfl, a, _, _, x1, rfl, rfl, ha, at1, x1, "int", isIntD d1, rfl, dp_isI h1, _, rfl, ?_⟩
        cases hI : isIntD d1 with
        | false => exact iteT (hN (no_out (place_int hI)) H2 e12)
        | true =>
        refine iteF ?_
        refine ⟨_, rfl, a, _, _, x1, rfl, rfl, ha, at1, _, rfl, wS u, rfl, by omega, a, _, _, _, rfl, ha, rfl, h0, s0, .inr ⟨_, rfl, _, _, rfl, rfl, _, _, rfl, ?_⟩⟩
        refine ⟨_, rfl, x1, "bool", isBoolD d1, rfl, dp_isB h1, _, rfl, ?_⟩
        cases hB : isBoolD d1 with
        | true => exact iteT (hN (no_out (place_bool hB)) H2 e12)
        | false =>
        refine iteF ?_
        obtain ⟨k, rfl⟩ := int_of hI hB
        cases h1
        refine ⟨_, rfl, _, _, rfl, rfl, _, rfl, ?_⟩
        by_cases k0 : 0 ≤ k
        case neg =>
          rw [decide_eq_false k0]
          exact iteF ⟨_, rfl, iteT (hN (no_out (by simp [placeD, k0])) H2 e12)⟩
        rw [decide_eq_true k0]
        refine iteT ⟨_, rfl, _, _, rfl, rfl, _, rfl, ?_⟩
        rw [op, lw]
        by_cases k1 : k < ((u.length : Nat) : Int) + (if false = true then 1 else 0)
        case neg =>
          rw [decide_eq_false k1]
          refine iteT (hN (no_out ?_) H2 e12)
          simp only [placeD, Bool.and_eq_false_iff, decide_eq_false_iff_not]
          exact .inr fun h => k1 (by show k < ((u.length : Nat) : Int) + 0; omega)
        rw [decide_eq_true k1]
        refine iteF ?_
        obtain ⟨i, rfl⟩ : ∃ i : Nat, k = ((i : Nat) : Int) := ⟨k.toNat, by omega⟩
        have li : i < u.length := by
          have : ((i : Nat) : Int) < ((u.length : Nat) : Int) + 0 := k1
          omega
        refine ⟨a, _, _, _, rfl, ha, rfl, h0, s0, _, rfl, iteY oo ?_⟩
        refine ⟨_, rfl, _, rfl, _, rfl, _, rfl, by omega, _, rfl, _, rfl, _, _, rfl, rfl, _, rfl, _, rfl, by omega, _, _, rfl, rfl, ?_, ?_⟩
        · have := lc none (some (i : Int))
          have := lc (some ((i : Int) + 1)) none
          omega
        · rw [cutTo5 u (by omega), cutBehind5 u li, wS_app]
          exact hY (.out i) li rfl H2 e12
      · subst hd0'
        refine ⟨_, rfl, a, _, rfl, .inr ha, a, _, _, _, rfl, ha, rfl, h0, s0, _, rfl, iteN so ⟨rfl, _, rfl, iteY rfl ?_⟩⟩
        exact hN (no_2 (fun e => by injection e with e; exact absurd e (by decide))) H2 e12
    | [], [], _, _ =>
      refine ⟨_, rfl, a, _, rfl, .inr ha, two, fun q hq => ⟨q, _, rfl, .inr (.inl (.inl upd_same)), rfl, rfl, _, rfl, iteY ?_ (hN (no_len (by simp) (by simp)) _ (same_new hq))⟩⟩
      rw [if_pos rfl, inV23 (by simp) (by simp)]
      rfl
    | [d0], [x0], _, _ =>
      refine ⟨_, rfl, a, _, rfl, .inr ha, two, fun q hq => ⟨q, _, rfl, .inr (.inl (.inl upd_same)), rfl, rfl, _, rfl, iteY ?_ (hN (no_len (by simp) (by simp)) _ (same_new hq))⟩⟩
      rw [if_pos rfl, inV23 (by simp) (by simp)]
      rfl
    | d0 :: d1 :: d2 :: d3 :: ds, x0 :: x1 :: x2 :: x3 :: xs, _, _ =>
      refine ⟨_, rfl, a, _, rfl, .inr ha, two, fun q hq => ⟨q, _, rfl, .inr (.inl (.inl upd_same)), rfl, rfl, _, rfl, iteY ?_ (hN (no_len (by simp) (by simp)) _ (same_new hq))⟩⟩
      rw [if_pos rfl, inV23 (by simp) (by simp)]
      rfl
end
end MN
/-! the law's own rows of words, prices, and the row back -/
namespace MN
open PySem PySem.Spec PyProof.Rows L2
theorem tot5_app {l : List (Option Int)} {m n : Int} (h : tot5 l = some m) : tot5 (l ++ [some n]) = some (m + n) := by
  induction l generalizing m with
  | nil =>
    cases h
    show some (n + 0) = some (0 + n)
    rw [Int.add_zero, Int.zero_add]
  | cons a l ih =>
    cases a with
    | none => cases h
    | some k =>
      obtain ⟨j, hj, rfl⟩ := Option.map_eq_some_iff.mp (show (tot5 l).map (fun m => k + m) = some m from h)
      show (tot5 (l ++ [some n])).map (fun m => k + m) = _
      rw [ih hj]
      show some (k + (j + n)) = some (k + j + n)
      rw [Int.add_assoc]
theorem rOf_le {zs zs2 : List Str} {g o : Str → Int} {ps : List ((Str × Str) × Int)} (N : PrN zs zs2 g o ps) {x y : Nd} {p : Int} (h : rOf (codesOf zs) g o ps x y = some p) : p ≤ 18 := by
  cases x with
  | none =>
    cases y with
    | none => cases h
    | some b =>
      change (if b ∈ codesOf zs then some (g (sgS b)) else none) = some p at h
      split at h
      · rename_i hb
        cases h
        have := (N.pg _ ((mem_codes N.sg).mp hb)).2
        omega
      · cases h
  | some a =>
    cases y with
    | none =>
      change (if a ∈ codesOf zs then some (o (sgS a)) else none) = some p at h
      split at h
      · rename_i hb
        cases h
        have := (N.po _ ((mem_codes N.sg).mp hb)).2
        omega
      · cases h
    | some b => exact (N.sp _ ((findP_some N.sn).mp h)).2.2.2.2
theorem oV_get {o : Option Int} {v : V} : (o.map V.int).getD v = match o with
    | some n => .int n
    | none => v := by cases o <;> rfl
section
variable {P : Program} {w : World} {K : PySem.W.Frag} {mg : Str → Option Value} {base : Heap}
abbrev N_law_run5 : List Str := ["_law_word", "_law_row", "_law_found", "_law_change", "_law_now"]
theorem sc_law_run5 : FnScope N_law_run5 ["_law_word", "_law_row"] (defScope (top 46)) := ⟨rfl, rfl, rfl, by decide +kernel, rfl, by decide +kernel, by decide +kernel⟩
theorem c_law_run5 (A : At K mg "_law_run" (top 46)) (B : Blt mg) (c_law_made : Cal P w K mg base 1 "_law_made" (spMade5 K)) : Cal P w K mg base 2 "_law_run" (spAlong5 K) := by
  refine cal_of A sc_law_run5 (fun _ _ _ _ _ _ us hl => match us, hl with | [_, _], _ => rfl) (fun vs H Q E h => ?_) (fun f cdv A outer s H vs Q E hr h => ?_)
  · obtain ⟨_, _, _, rfl, _⟩ := h; rfl
  · obtain ⟨u, v, d, rfl, lu, hd, hY, hN⟩ := h
    refine ⟨_, (pss_cons (ps_if (pt_not (pt_val (pe_callB call_isS (by rfl) B.isinstance (by decide +kernel) (pa_cons (pv 1) (pa_cons (pe_bltn (v := .ty "tuple") (by rfl) B.tuple (by decide +kernel) rfl) pa_nil))))) (pss_one (ps_ret pe_non)) pss_nil)
      (pss_cons (ps_set (i := 2) sc_law_run5.nd rfl (Or.inl rfl) (pe_lst (pa_cons (pv 0) pa_nil)))
      (pss_cons (ps_for PassesOwn.never rfl (pi_tup (pv 1)) (pg_name (i := 3) sc_law_run5.nd rfl (Or.inl rfl))
      (pss_cons (ps_set (i := 4) sc_law_run5.nd rfl (Or.inl rfl) (pe_c c_law_made hr (by decide) (by rfl) (pa_cons (pe_ix ix_list (pv 2) (pe_un un_neg pe_int) (fun _ _ => rfl)) (pa_cons (pv 3) pa_nil))))
      (pss_cons (ps_if (pt_cmpR op_isN (pv 4) pe_non (nomark _)) (pss_one (ps_ret pe_non)) pss_nil)
      (pss_one (ps_expr (pe_append K rfl (pv 2) (pv 4)))))))
      (pss_one (ps_ret (pv 2)))))), ?_⟩
    have one : 1 ≤ sizeLine := by decide
    refine ⟨_, rfl, v, "tuple", isTD d, rfl, hd.isT, _, rfl, ?_⟩
    cases hi : isTD d with
    | false =>
      refine iteT (hN (fun cs h => ?_) H (Same.refl _))
      rw [h.2] at hi
      cases hi
    | true =>
    refine iteF ?_
    obtain ⟨ds, rfl⟩ : ∃ ds, d = .tuple ds := by
      cases d <;> first | exact ⟨_, rfl⟩ | cases hi
    rcases hd with ⟨hd, sb, ln⟩ | ⟨_, _, _, e⟩
    case inr => cases e
    replace ln := ln ds rfl
    cases hd with
    | @tup a xs _ ha hds =>
    have sbi := sb_item sb
    have hl := dpa_len hds
    refine ⟨_, rfl, one, fun D hD => ?_⟩
    have e0 := same_new (o := .lst [.str (wS u)]) hD
    have aD : ∀ o, H a = some o → a ≠ D := fun o h => ne_of_none h hD
    have haT : ∀ H', Same H H' → SqT K H' a xs := fun H' e => Same.seqT e ha
    refine ⟨_, rfl, a, rfl, ⟨_, haT _ e0⟩, for_it walk_tup (fun i σ H' => Same H H' ∧ (∃ o3 o4, σ = [some (.str (wS u)), some (.ref a), some (.ref D), o3, o4]) ∧ ∃ cs, okRow u cs ∧ cs.length = i ∧ cs.map Ch5.dat = ds.take i ∧ H' D = some (.lst (wordsV (along u cs)))) ⟨e0, ⟨_, _, rfl⟩, [], trivial, rfl, rfl, upd_same⟩ (fun i σ H' _ e => haT _ e.1) (fun i y σ H2 H2' hi' e hy => ?_) (fun σ H2 e => ?_)⟩
    · obtain ⟨rfl, hy⟩ := hy
      obtain ⟨e2, ⟨o3, o4, rfl⟩, cs, ok, lc, mc, hF⟩ := e
      have hi2 : i < ds.length := by omega
      have hdi := List.getElem?_eq_getElem hi2
      have hdp := dpa_get hds hy hdi
      have lw : (lastW u cs).length ≤ 5000 := by
        have := lastW_len ok
        omega
      have lv : (wordsV (along u cs)).length = i + 1 := by rw [wordsV, List.length_map, along_len, lc]
      have at1 : atI (wordsV (along u cs)) (-1) = some (.str (wS (lastW u cs))) := by
        have h1 : (wordsV (along u cs))[i]? = some (.str (wS (lastW u cs))) := by
          rw [wordsV, List.getElem?_map, ← lc, along_last]
          rfl
        exact at_last5 lv h1
      have next : ∀ c : Ch5, c.Ok (lastW u cs) → ds[i] = c.dat → okRow u (cs ++ [c]) ∧ (cs ++ [c]).map Ch5.dat = ds.take (i + 1) := fun c hc e => by
        refine ⟨okRow_app.mpr ⟨ok, hc, trivial⟩, ?_⟩
        rw [List.map_append, mc, List.map_cons, List.map_nil, ← e, List.take_succ, List.getElem?_eq_getElem hi2]
        rfl
      refine ⟨_, rfl, _, rfl, _, _, _, _, rfl, rfl, SqL.of hF, at1, _, rfl, lastW u cs, y, ds[i], rfl, lw, dp_same e2 _ _ hdp, sbi _ (List.getElem_mem hi2), fun c hc e H3 e3 => ?_, fun no H3 e3 => ?_⟩
      · refine ⟨_, rfl, rfl, _, rfl, iteF ?_⟩
        obtain ⟨n1, n2⟩ := next c hc e
        refine ⟨_, rfl, .inl ⟨rfl, _, SqL.of (e3 _ _ hF)⟩, _, rfl, D, _, _, rfl, rfl, e3 _ _ hF, ?_, ?_⟩
        · have : 1000 < sizeLine := by decide
          omega
        · refine ⟨fun b o h => by rw [upd_ne (ne_of_none h hD)]; exact (e2.trans e3) _ _ h, ⟨_, _, rfl⟩, cs ++ [c], n1, by rw [List.length_append, lc]; rfl, n2, ?_⟩
          rw [upd_same, along_app1]
          simp [wordsV]
      · refine ⟨_, rfl, rfl, _, rfl, iteT (hN (fun cs' h => ?_) _ (e2.trans e3))⟩
        have e4 := dats_pre (u := u) (k := i) mc (by have := h.2; injection this with this; exact this.symm)
        have l2 : cs'.length = ds.length := by
          have := h.2
          injection this with this
          rw [this, List.length_map]
        have g1 := List.getElem?_eq_getElem (show i < cs'.length by omega)
        have g2 := okRow_at h.1 g1
        rw [← e4] at g2
        refine no _ g2 ?_
        have : ds = cs'.map Ch5.dat := by have := h.2; injection this
        subst this
        simp
    · obtain ⟨e2, ⟨o3, o4, rfl⟩, cs, ok, lc, mc, hF⟩ := e
      refine ⟨_, rfl, hY cs ⟨ok, ?_⟩ D H2 e2 hF⟩
      rw [mc, List.take_of_length_le (by omega)]
def spPaid5 (K : PySem.W.Frag) : Sp := fun vs H Q _ => ∃ (u : List Nat) (p : Addr) (v : V) (cs : List Ch5) (t : Addr) (zs : List Str) (g o : Str → Int) (ps : List ((Str × Str) × Int)) (TA TB TW : Addr), vs = [.ref t, .ref p, v] ∧ u.length ≤ 1000 ∧ okRow u cs ∧ cs.length ≤ 40 ∧ SqL K H p (wordsV (along u cs)) ∧ Dp K H v (.tuple (cs.map Ch5.dat)) ∧ TblAt H t zs g o ps TA TB TW ∧ PrN zs zs g o ps ∧
  ∀ H', Same H H' → Q (oV (tot5 (pcs5 (rOf (codesOf zs) g o ps) u cs))) H'
abbrev N_law_paid5 : List Str := ["_law_table", "_law_words", "_law_row", "_law_total", "_law_word", "_law_change", "_law_cost_now"]
theorem sc_law_paid5 : FnScope N_law_paid5 ["_law_table", "_law_words", "_law_row"] (defScope (top 47)) := ⟨rfl, rfl, rfl, by decide +kernel, rfl, by decide +kernel, by decide +kernel⟩
theorem c_law_paid5 (A : At K mg "_law_paid" (top 47)) (B : Blt mg) : Cal P w K mg base 1 "_law_paid" (spPaid5 K) := by
  refine cal_of A sc_law_paid5 (fun _ _ _ _ _ _ us hl => match us, hl with | [_, _, _], _ => rfl) (fun vs H Q E h => ?_) (fun f cdv A outer s H vs Q E hr h => ?_)
  · obtain ⟨_, _, _, _, _, _, _, _, _, _, _, _, rfl, _⟩ := h; rfl
  · obtain ⟨u, p, v, cs, t, zs, g, o, ps, TA, TB, TW, rfl, lu, ok, lc, hp, hd, T, N, hQ⟩ := h
    refine ⟨_, (pss_cons (ps_set (i := 3) sc_law_paid5.nd rfl (Or.inl rfl) pe_int)
      (pss_cons (ps_for PassesOwn.never rfl (pi_zipM false true (by rfl) B.zip (pa_cons (pv 1) (pa_cons (pv 2) pa_nil))) (pg_tup (n := 2) rfl (pgs_cons (pg_name (i := 4) sc_law_paid5.nd rfl (Or.inl rfl)) (pgs_cons (pg_name (i := 5) sc_law_paid5.nd rfl (Or.inl rfl)) pgs_nil)))
      (pss_cons (ps_if (PT.imp5 (t' := tB (tIs K 5 "put")) (pt_cmpR (op_eqD hr.units) (pe_ix ix_tup (pv 5) pe_int (fun _ _ => rfl)) pe_str (nomark _)) (fun σ H Q => imp_is (by decide +kernel) σ H _)) (pss_one (ps_set (i := 6) sc_law_paid5.nd rfl (Or.inl rfl) (pe_dget2 (hu_of hr) (pe_ix ix_list (pv 0) pe_int (fun _ _ => rfl)) (pe_ix ix_tup (pv 5) pe_int (fun _ _ => rfl)) pe_int ⟨by rfl, by rfl, by rfl, by rfl⟩))) (pss_one (ps_if (PT.imp5 (t' := tB (tIs K 5 "out")) (pt_cmpR (op_eqD hr.units) (pe_ix ix_tup (pv 5) pe_int (fun _ _ => rfl)) pe_str (nomark _)) (fun σ H Q => imp_is (by decide +kernel) σ H _)) (pss_one (ps_set (i := 6) sc_law_paid5.nd rfl (Or.inl rfl) (pe_dget2 (hu_of hr) (pe_ix ix_list (pv 0) pe_int (fun _ _ => rfl)) (pe_ix ix_str (pv 4) (pe_ix ix_tup (pv 5) pe_int (fun _ _ => rfl)) (fun _ _ => rfl)) pe_int ⟨by rfl, by rfl, by rfl, by rfl⟩))) (pss_one (ps_set (i := 6) sc_law_paid5.nd rfl (Or.inl rfl) (pe_dget2 (hu_of hr) (pe_ix ix_list (pv 0) pe_int (fun _ _ => rfl)) (pe_tup (pa_cons (pe_ix ix_str (pv 4) (pe_ix ix_tup (pv 5) pe_int (fun _ _ => rfl)) (fun _ _ => rfl)) (pa_cons (pe_ix ix_tup (pv 5) pe_int (fun _ _ => rfl)) pa_nil))) pe_int ⟨by rfl, by rfl, by rfl, by rfl⟩))))))
      (pss_cons (ps_if (pt_cmpR op_eq (pv 6) pe_int (nomark _)) (pss_one (ps_ret pe_non)) pss_nil)
      (pss_one (ps_set (i := 3) sc_law_paid5.nd rfl (Or.inl rfl) (pe_op op_add (pv 3) (pv 6)))))))
      (pss_one (ps_ret (pv 3))))), ?_⟩
    have big : 100000 < sizeLine := by decide
    have two : 2 ≤ sizeLine := by decide
    have pp : isStrD (.str "put") "put" = true := isStrD_self
    have op : isStrD (.str "out") "put" = false := by decide +kernel
    have oo : isStrD (.str "out") "out" = true := isStrD_self
    have sp : isStrD (.str "swap") "put" = false := by decide +kernel
    have so : isStrD (.str "swap") "out" = false := by decide +kernel
    have hsh : ∀ z ∈ (["put", "out", "swap"] : List Str), SeqAt.shaped (.str z) = true := by decide +kernel
    cases hd with
    | @tup a xs _ ha hds =>
    have hl := dpa_len hds
    rw [List.length_map] at hl
    have lv : (wordsV (along u cs)).length = cs.length + 1 := by rw [wordsV, List.length_map, along_len]
    refine ⟨_, rfl, _, rfl, p, a, _, _, rfl, hp, ha, for_it (walk_zipM (n := cs.length) (by rw [lv, hl]; omega)) (fun i σ H' => Same H H' ∧ (∃ m o4 o5 o6, σ = [some (.ref t), some (.ref p), some (.ref a), some (.int m), o4, o5, o6] ∧ tot5 ((pcs5 (rOf (codesOf zs) g o ps) u cs).take i) = some m)) ⟨Same.refl _, 0, _, _, _, rfl, rfl⟩ (fun i σ H' _ e => ⟨SqK.same e.1 hp, SqK.same e.1 ha⟩) (fun i x σ H2 H2' hi e y => ?_) (fun σ H2 e => ?_)⟩
    · obtain ⟨Tz, x1, y1, rfl, hT, rfl, h1, h2⟩ := y
      obtain ⟨e1, m, o4, o5, o6, rfl, hm⟩ := e
      have e2 := e1.trans (same_new (o := .tup [x1, y1]) hT)
      refine ⟨Tz, _, rfl, .inl (.inl upd_same), rfl, _, _, rfl, _, _, rfl, rfl, ?_⟩
      generalize upd H2 Tz (.tup [x1, y1]) = H3 at e2 ⊢
      have gi := List.getElem?_eq_getElem hi
      have okc := okRow_at ok gi
      have hx : x1 = .str (wS (lastW u (cs.take i))) := by
        have h1' : (wordsV (along u cs))[i]? = some x1 := h1
        rw [wordsV, List.getElem?_map, along_at (by omega)] at h1'
        cases h1'
        rfl
      subst hx
      have hdy : Dp K H y1 cs[i].dat := dpa_get hds h2 (by rw [List.getElem?_map, gi]; rfl)
      have ll : (lastW u (cs.take i)).length ≤ 5000 := by
        have h1 := lastW_len (u := u) (cs := cs.take i) (by
          have := okRow_app (u := u) (a := cs.take i) (b := cs.drop i)
          rw [List.take_append_drop] at this
          exact (this.mp ok).1)
        have : (cs.take i).length ≤ 40 := by rw [List.length_take]; omega
        omega
      have gp := pcs5_at (r := rOf (codesOf zs) g o ps) (u := u) gi
      have lw := wS_len (lastW u (cs.take i))
      generalize lastW u (cs.take i) = w at okc ll gp lw ⊢
      generalize hc : cs[i] = c at okc hdy gp
      obtain ⟨q, rfl, hq⟩ := dp_vals (dp_same e2 _ _ hdy)
      have T3 := T.same e2
      have tk := List.take_add_one (l := pcs5 (rOf (codesOf zs) g o ps) u cs) (i := i)
      rw [gp] at tk
      have inn : none ∈ (some (rOf (codesOf zs) g o ps (c.nd w).1 (c.nd w).2)).toList → tot5 (pcs5 (rOf (codesOf zs) g o ps) u cs) = none := fun h => tot5_none.mpr (by
        simp only [Option.toList_some, List.mem_singleton] at h
        exact List.mem_of_getElem? (by rw [gp, ← h]))
      cases c with
      | put j c =>
        refine ⟨q, _, _, .str "put", rfl, hq, rfl, .str _, hsh _ (by simp), _, rfl, iteY pp ?_⟩
        refine ⟨_, rfl, t, _, _, _, rfl, rfl, SqL.of T3.t, rfl, TA, rfl, .inl ⟨_, .inl T3.a⟩, _, rfl, q, _, _, _, rfl, rfl, hq, rfl, _, .inl ⟨_, .inr (sgS c), .inl T3.a, rfl, rfl⟩, ?_⟩
        rw [val_dk5 N.nd N.sg g c]
        have ne : rOf (codesOf zs) g o ps ((Ch5.put j c).nd w).1 ((Ch5.put j c).nd w).2 = (if c ∈ codesOf zs then some (g (sgS c)) else none) := rfl
        rw [← ne]
        cases hr2 : rOf (codesOf zs) g o ps ((Ch5.put j c).nd w).1 ((Ch5.put j c).nd w).2 with
        | none =>
          rw [hr2] at inn
          have := hQ _ (e2.trans (Same.refl _))
          rw [inn List.mem_cons_self] at this
          exact ⟨_, rfl, rfl, _, rfl, iteY (decide_eq_true rfl) this⟩
        | some n =>
          rw [hr2] at tk
          have le := rOf_le N hr2
          refine ⟨_, rfl, rfl, _, rfl, iteN (decide_eq_false fun e => by injection e with e; omega) ?_⟩
          refine ⟨_, rfl, _, rfl, _, _, rfl, rfl, ?_⟩
          refine ⟨e2.trans (Same.refl _), _, _, _, _, rfl, ?_⟩
          rw [tk]
          exact tot5_app hm
      | out j =>
        have lj : j < w.length := okc
        have gj := Ch5.getD_of lj
        refine ⟨q, _, _, .str "out", rfl, hq, rfl, .str _, hsh _ (by simp), _, rfl, iteN op ?_⟩
        refine ⟨q, _, _, .str "out", rfl, hq, rfl, .str _, hsh _ (by simp), _, rfl, iteY oo ?_⟩
        refine ⟨_, rfl, t, _, _, _, rfl, rfl, SqL.of T3.t, rfl, TB, rfl, .inl ⟨_, .inl T3.b⟩, _, rfl, _, rfl, q, _, _, _, rfl, rfl, hq, rfl, wS w, _, _, rfl, rfl, by omega, atI_nat gj, _, .inl ⟨_, .inr (sgS (w.getD j 0)), .inl T3.b, rfl, rfl⟩, ?_⟩
        rw [val_dk5 N.nd N.sg o _]
        have ne : rOf (codesOf zs) g o ps ((Ch5.out j).nd w).1 ((Ch5.out j).nd w).2 = (if w.getD j 0 ∈ codesOf zs then some (o (sgS (w.getD j 0))) else none) := rfl
        rw [← ne]
        cases hr2 : rOf (codesOf zs) g o ps ((Ch5.out j).nd w).1 ((Ch5.out j).nd w).2 with
        | none =>
          rw [hr2] at inn
          have := hQ _ (e2.trans (Same.refl _))
          rw [inn List.mem_cons_self] at this
          exact ⟨_, rfl, rfl, _, rfl, iteY (decide_eq_true rfl) this⟩
        | some n =>
          rw [hr2] at tk
          have le := rOf_le N hr2
          refine ⟨_, rfl, rfl, _, rfl, iteN (decide_eq_false fun e => by injection e with e; omega) ?_⟩
          refine ⟨_, rfl, _, rfl, _, _, rfl, rfl, ?_⟩
          refine ⟨e2.trans (Same.refl _), _, _, _, _, rfl, ?_⟩
          rw [tk]
          exact tot5_app hm
      | swap j c =>
        have lj : j < w.length := okc.1
        have gj := Ch5.getD_of lj
        refine ⟨q, _, _, .str "swap", rfl, hq, rfl, .str _, hsh _ (by simp), _, rfl, iteN sp ?_⟩
        refine ⟨q, _, _, .str "swap", rfl, hq, rfl, .str _, hsh _ (by simp), _, rfl, iteN so ?_⟩
        refine ⟨_, rfl, t, _, _, _, rfl, rfl, SqL.of T3.t, rfl, TW, rfl, .inr ⟨_, .inl T3.s⟩, _, rfl, _, rfl, q, _, _, _, rfl, rfl, hq, rfl, wS w, _, _, rfl, rfl, by omega, atI_nat gj, _, rfl, q, _, _, _, rfl, rfl, hq, rfl, two, fun r hr2 => ?_⟩
        have eq := same_new (o := .tup [.str (sgS (w.getD j 0)), .str (sgS c)]) hr2
        refine ⟨_, .inr ⟨_, [.inr (sgS (w.getD j 0)), .inr (sgS c)], r, .inl (eq _ _ T3.s), rfl, upd_same, rfl⟩, ?_⟩
        rw [val_dt5 N.sn]
        have ne : rOf (codesOf zs) g o ps ((Ch5.swap j c).nd w).1 ((Ch5.swap j c).nd w).2 = findP ps (sgS (w.getD j 0)) (sgS c) := rfl
        rw [← ne]
        cases hr2 : rOf (codesOf zs) g o ps ((Ch5.swap j c).nd w).1 ((Ch5.swap j c).nd w).2 with
        | none =>
          rw [hr2] at inn
          have := hQ _ (e2.trans eq)
          rw [inn List.mem_cons_self] at this
          exact ⟨_, rfl, rfl, _, rfl, iteY (decide_eq_true rfl) this⟩
        | some n =>
          rw [hr2] at tk
          have le := rOf_le N hr2
          refine ⟨_, rfl, rfl, _, rfl, iteN (decide_eq_false fun e => by injection e with e; omega) ?_⟩
          refine ⟨_, rfl, _, rfl, _, _, rfl, rfl, ?_⟩
          refine ⟨e2.trans eq, _, _, _, _, rfl, ?_⟩
          rw [tk]
          exact tot5_app hm
    · obtain ⟨e1, m, o4, o5, o6, rfl, hm⟩ := e
      rw [List.take_of_length_le (by rw [pcs5_len]; omega)] at hm
      refine ⟨_, rfl, ?_⟩
      have := hQ H2 e1
      rw [hm] at this
      exact this
def BkAt5 (u : List Nat) (cs : List Ch5) (ts : List V) (H' : Hp) : Prop := ∀ (k : Nat) (v : V), ts[k]? = some v → ∃ (t : Addr) (c : Ch5), v = .ref t ∧ (backs u cs)[k]? = some c ∧ H' t = some (.tup c.vals)
def spWb5 (K : PySem.W.Frag) : Sp := fun vs H Q _ => ∃ (u : List Nat) (p : Addr) (v : V) (cs : List Ch5), vs = [.ref p, v] ∧ u.length ≤ 1000 ∧ okRow u cs ∧ cs.length ≤ 40 ∧ SqL K H p (wordsV (along u cs)) ∧ Dp K H v (.tuple (cs.map Ch5.dat)) ∧
  ∀ t H', Same H H' → Dp K H' (.ref t) (.tuple ((wayBack u cs).map Ch5.dat)) → Q (.ref t) H'
abbrev N_law_wb5 : List Str := ["_law_words", "_law_row", "_law_found", "_law_word", "_law_change"]
theorem sc_law_wb5 : FnScope N_law_wb5 ["_law_words", "_law_row"] (defScope (top 48)) := ⟨rfl, rfl, rfl, by decide +kernel, rfl, by decide +kernel, by decide +kernel⟩
theorem c_law_wb5 (A : At K mg "_law_way_back" (top 48)) (B : Blt mg) : Cal P w K mg base 1 "_law_way_back" (spWb5 K) := by
  refine cal_of A sc_law_wb5 (fun _ _ _ _ _ _ us hl => match us, hl with | [_, _], _ => rfl) (fun vs H Q E h => ?_) (fun f cdv A outer s H vs Q E hr h => ?_)
  · obtain ⟨_, _, _, _, rfl, _⟩ := h; rfl
  · obtain ⟨u, p, v, cs, rfl, lu, ok, lc, hp, hd, hQ⟩ := h
    refine ⟨_, (pss_cons (ps_set (i := 2) sc_law_wb5.nd rfl (Or.inl rfl) (pe_lst pa_nil))
      (pss_cons (ps_for PassesOwn.never rfl (pi_zipM false true (by rfl) B.zip (pa_cons (pv 0) (pa_cons (pv 1) pa_nil))) (pg_tup (n := 2) rfl (pgs_cons (pg_name (i := 3) sc_law_wb5.nd rfl (Or.inl rfl)) (pgs_cons (pg_name (i := 4) sc_law_wb5.nd rfl (Or.inl rfl)) pgs_nil)))
      (pss_one (ps_if (PT.imp5 (t' := tB (tIs K 4 "put")) (pt_cmpR (op_eqD hr.units) (pe_ix ix_tup (pv 4) pe_int (fun _ _ => rfl)) pe_str (nomark _)) (fun σ H Q => imp_is (by decide +kernel) σ H _)) (pss_one (ps_expr (pe_append K rfl (pv 2) (pe_tup (pa_cons pe_str (pa_cons (pe_ix ix_tup (pv 4) pe_int (fun _ _ => rfl)) pa_nil)))))) (pss_one (ps_expr (pe_append K rfl (pv 2) (pe_tup (pa_cons (pe_ifExp (PT.imp5 (t' := tB (tIs K 4 "out")) (pt_cmpR (op_eqD hr.units) (pe_ix ix_tup (pv 4) pe_int (fun _ _ => rfl)) pe_str (nomark _)) (fun σ H Q => imp_is (by decide +kernel) σ H _)) pe_str pe_str) (pa_cons (pe_ix ix_tup (pv 4) pe_int (fun _ _ => rfl)) (pa_cons (pe_ix ix_str (pv 3) (pe_ix ix_tup (pv 4) pe_int (fun _ _ => rfl)) (fun _ _ => rfl)) pa_nil))))))))))
      (pss_one (ps_ret (pe_callTy call_tuple_of (by rfl) B.tuple (by decide +kernel) (pa_cons (pe_revL (K := K) rfl (pv 2)) pa_nil)))))), ?_⟩
    have big : 100000 < sizeLine := by decide
    have two : 2 ≤ sizeLine := by decide
    have three : 3 ≤ sizeLine := by decide
    have pp : isStrD (.str "put") "put" = true := isStrD_self
    have op : isStrD (.str "out") "put" = false := by decide +kernel
    have oo : isStrD (.str "out") "out" = true := isStrD_self
    have sp : isStrD (.str "swap") "put" = false := by decide +kernel
    have so : isStrD (.str "swap") "out" = false := by decide +kernel
    have hsh : ∀ z ∈ (["put", "out", "swap"] : List Str), SeqAt.shaped (.str z) = true := by decide +kernel
    cases hd with
    | @tup a xs _ ha hds =>
    have hl := dpa_len hds
    rw [List.length_map] at hl
    have lv : (wordsV (along u cs)).length = cs.length + 1 := by rw [wordsV, List.length_map, along_len]
    refine ⟨Nat.zero_le _, fun F hF => ?_⟩
    have e0 := same_new (o := .lst []) hF
    refine ⟨_, rfl, _, rfl, p, a, _, _, rfl, SqK.same e0 hp, SqK.same e0 ha, for_it (walk_zipM (n := cs.length) (by rw [lv, hl]; omega)) (fun i σ H' => Same H H' ∧ (∃ o3 o4, σ = [some (.ref p), some (.ref a), some (.ref F), o3, o4]) ∧ ∃ ts : List V, H' F = some (.lst ts) ∧ ts.length = i ∧ BkAt5 u cs ts H') ⟨e0, ⟨_, _, rfl⟩, [], upd_same, rfl, fun k v h => by cases h⟩ (fun i σ H' _ e => ⟨SqK.same e.1 hp, SqK.same e.1 ha⟩) (fun i x σ H2 H2' hi e y => ?_) (fun σ H2 e => ?_)⟩
    · obtain ⟨Tz, x1, y1, rfl, hT, rfl, h1, h2⟩ := y
      obtain ⟨e1, ⟨o3, o4, rfl⟩, ts, hF2, lt, hts⟩ := e
      have sT := same_new (o := .tup [x1, y1]) hT
      have e2 := e1.trans sT
      refine ⟨Tz, _, rfl, .inl (.inl upd_same), rfl, _, _, rfl, _, _, rfl, rfl, ?_⟩
      have hF3 := sT _ _ hF2
      have hts3 : BkAt5 u cs ts (upd H2 Tz (.tup [x1, y1])) := fun k v h => by
        obtain ⟨t, c, r1, r2, r3⟩ := hts k v h
        exact ⟨t, c, r1, r2, sT _ _ r3⟩
      generalize upd H2 Tz (.tup [x1, y1]) = H3 at e2 hF3 hts3 ⊢
      have gi := List.getElem?_eq_getElem hi
      have okc := okRow_at ok gi
      have hx : x1 = .str (wS (lastW u (cs.take i))) := by
        have h1' : (wordsV (along u cs))[i]? = some x1 := h1
        rw [wordsV, List.getElem?_map, along_at (by omega)] at h1'
        cases h1'
        rfl
      subst hx
      have hdy : Dp K H y1 cs[i].dat := dpa_get hds h2 (by rw [List.getElem?_map, gi]; rfl)
      have ll : (lastW u (cs.take i)).length ≤ 5000 := by
        have h1 := lastW_len (u := u) (cs := cs.take i) (by
          have := okRow_app (u := u) (a := cs.take i) (b := cs.drop i)
          rw [List.take_append_drop] at this
          exact (this.mp ok).1)
        have : (cs.take i).length ≤ 40 := by rw [List.length_take]; omega
        omega
      have gb := backs_at (u := u) gi
      have lw := wS_len (lastW u (cs.take i))
      generalize lastW u (cs.take i) = w at okc ll gb lw ⊢
      generalize hc : cs[i] = c at okc hdy gb
      obtain ⟨q, rfl, hq⟩ := dp_vals (dp_same e2 _ _ hdy)
      have fin : ∀ t (xs : List V), xs = (c.back w).vals → H3 t = none → Same H (upd (upd H3 t (.tup xs)) F (.lst (ts ++ [.ref t]))) ∧ ∃ ts' : List V, upd (upd H3 t (.tup xs)) F (.lst (ts ++ [.ref t])) F = some (.lst ts') ∧ ts'.length = i + 1 ∧ BkAt5 u cs ts' (upd (upd H3 t (.tup xs)) F (.lst (ts ++ [.ref t]))) := by
        intro t xs hx ht
        have sq := same_new (o := .tup xs) ht
        have up : ∀ b o, b ≠ F → H3 b = some o → upd (upd H3 t (.tup xs)) F (.lst (ts ++ [.ref t])) b = some o := fun b o n h => by
          rw [upd_ne n]
          exact sq _ _ h
        refine ⟨fun b o h => up b o (ne_of_none h hF) (e2 _ _ h), _, upd_same, by rw [List.length_append, lt]; rfl, fun k v h => ?_⟩
        by_cases hk : k < ts.length
        · rw [List.getElem?_append_left hk] at h
          obtain ⟨t', c', r1, r2, r3⟩ := hts3 k v h
          exact ⟨t', c', r1, r2, up _ _ (fun z => by rw [z, hF3] at r3; cases r3) r3⟩
        · have hl := (List.getElem?_eq_some_iff.mp h).1
          rw [List.length_append] at hl
          have hkl : k = ts.length := by simp at hl; omega
          subst hkl
          rw [List.getElem?_append_right (Nat.le_refl _), Nat.sub_self] at h
          cases h
          refine ⟨t, _, rfl, by rw [lt]; exact gb, ?_⟩
          rw [upd_ne (fun z => by rw [z, hF3] at ht; cases ht), upd_same, hx]
      have lts : ts.length ≤ 40 := by omega
      cases c with
      | put j c =>
        refine ⟨q, _, _, .str "put", rfl, hq, rfl, .str _, hsh _ (by simp), _, rfl, iteY pp ?_⟩
        refine ⟨_, rfl, .inl ⟨rfl, _, SqL.of hF3⟩, _, rfl, q, _, _, _, rfl, rfl, hq, rfl, two, fun t ht => ⟨F, ts, _, rfl, rfl, same_new ht _ _ hF3, by omega, ?_⟩⟩
        obtain ⟨g1, g2⟩ := fin t _ rfl ht
        exact ⟨g1, ⟨_, _, rfl⟩, g2⟩
      | out j =>
        have lj : j < w.length := okc
        have gj := Ch5.getD_of lj
        refine ⟨q, _, _, .str "out", rfl, hq, rfl, .str _, hsh _ (by simp), _, rfl, iteN op ?_⟩
        refine ⟨_, rfl, .inl ⟨rfl, _, SqL.of hF3⟩, q, _, _, .str "out", rfl, hq, rfl, .str _, hsh _ (by simp), _, rfl, iteY oo ?_⟩
        refine ⟨_, rfl, q, _, _, _, rfl, rfl, hq, rfl, _, rfl, _, rfl, q, _, _, _, rfl, rfl, hq, rfl, wS w, _, _, rfl, rfl, by omega, atI_nat gj, three, fun t ht => ⟨F, ts, _, rfl, rfl, same_new ht _ _ hF3, by omega, ?_⟩⟩
        obtain ⟨g1, g2⟩ := fin t _ rfl ht
        exact ⟨g1, ⟨_, _, rfl⟩, g2⟩
      | swap j c =>
        have lj : j < w.length := okc.1
        have gj := Ch5.getD_of lj
        refine ⟨q, _, _, .str "swap", rfl, hq, rfl, .str _, hsh _ (by simp), _, rfl, iteN sp ?_⟩
        refine ⟨_, rfl, .inl ⟨rfl, _, SqL.of hF3⟩, q, _, _, .str "swap", rfl, hq, rfl, .str _, hsh _ (by simp), _, rfl, iteN so ?_⟩
        refine ⟨_, rfl, q, _, _, _, rfl, rfl, hq, rfl, _, rfl, _, rfl, q, _, _, _, rfl, rfl, hq, rfl, wS w, _, _, rfl, rfl, by omega, atI_nat gj, three, fun t ht => ⟨F, ts, _, rfl, rfl, same_new ht _ _ hF3, by omega, ?_⟩⟩
        obtain ⟨g1, g2⟩ := fin t _ rfl ht
        exact ⟨g1, ⟨_, _, rfl⟩, g2⟩
    · obtain ⟨e1, ⟨o3, o4, rfl⟩, ts, hF2, lt, hts⟩ := e
      refine ⟨_, rfl, F, _, rfl, SqL.of hF2, fun R hR => ⟨R, _, rfl, .inl ⟨SqL.of upd_same, fun T hT => ?_⟩⟩⟩
      have e4 := same_new (o := .lst ts.reverse) hR
      have e5 := same_new (o := .tup ts.reverse) hT
      refine hQ T _ ((e1.trans e4).trans e5) (.tup (.inl (.inl upd_same)) (dpa_of ?_ fun k v d h1 h2 => ?_))
      · rw [List.length_reverse, lt, List.length_map, wayBack, List.length_reverse, backs_len]
      · rw [List.getElem?_map] at h2
        obtain ⟨c, hc, rfl⟩ := Option.map_eq_some_iff.mp h2
        have k1 : k < cs.length := by
          have := (List.getElem?_eq_some_iff.mp h1).1
          rw [List.length_reverse] at this
          omega
        rw [List.getElem?_reverse (by omega)] at h1
        rw [wayBack, List.getElem?_reverse (by rw [backs_len]; exact k1), backs_len] at hc
        obtain ⟨t, c', rfl, r2, r3⟩ := hts _ _ h1
        rw [lt, hc] at r2
        cases r2
        exact vals_dp (.inl (.inl (e5 _ _ (e4 _ _ r3))))
end
end MN
/-! the ground: the heap without the tables and the pot; makers of lambdas -/
namespace MN
open PySem PySem.Spec PyProof.Rows L2 MNE
def isTblO : HO → Bool
  | .tbl _ => true
  | _ => false
def Gb (p : Addr) (H : Hp) : Hp := fun b => if b = p then none else match H b with
  | some o => if isTblO o = true then none else some o
  | none => none
theorem notTbl {o : HO} (h : ∀ ps, o ≠ .tbl ps) : isTblO o = false := by
  cases o with
  | tbl ps => exact absurd rfl (h ps)
  | _ => rfl
/-- all but the pot and the tables stays -/
def NTa (p : Addr) (H G : Hp) : Prop := ∀ b o, b ≠ p → (∀ ps, o ≠ .tbl ps) → H b = some o → G b = some o
theorem gb_keep {p : Addr} {H : Hp} : NTa p H (Gb p H) := fun b o hb ho e => by
  unfold Gb
  rw [if_neg hb, e]
  show (if isTblO o = true then none else some o) = some o
  rw [notTbl ho]
  rfl
/-- facts stand on the ground -/
structure Gnd (p : Addr) (G H : Hp) : Prop where
  same : Same G H
  noT : ∀ b ps, G b ≠ some (.tbl ps)
  noP : G p = none
theorem gb_gnd {p : Addr} {H : Hp} : Gnd p (Gb p H) H := by
  have at_ : ∀ b o, Gb p H b = some o → b ≠ p ∧ H b = some o ∧ isTblO o = false := fun b o e => by
    unfold Gb at e
    by_cases hb : b = p
    · rw [if_pos hb] at e; cases e
    · rw [if_neg hb] at e
      cases q : H b with
      | none => rw [q] at e; cases e
      | some u =>
        rw [q] at e
        have e' : (if isTblO u = true then none else some u) = some o := e
        cases hu : isTblO u with
        | true => rw [hu] at e'; cases e'
        | false =>
          rw [hu] at e'
          cases e'
          exact ⟨hb, rfl, hu⟩
  exact ⟨fun b o e => (at_ b o e).2.1, fun b ps e => (by have := (at_ b _ e).2.2; cases this), if_pos rfl⟩
theorem Gnd.nta {p : Addr} {G H H' : Hp} (g : Gnd p G H) (e : NTa p H H') : Gnd p G H' :=
  ⟨fun b o h => e b o (fun z => by rw [z, g.noP] at h; cases h) (fun ps z => g.noT b ps (by rw [← z]; exact h)) (g.same b o h), g.noT, g.noP⟩
theorem Gnd.extN {p : Addr} {G H H' : Hp} (g : Gnd p G H) (e : LamX.ExtN H H') : Gnd p G H' := g.nta fun b o _ h2 h3 => e b o h3 h2
theorem Gnd.same_ {p : Addr} {G H H' : Hp} (g : Gnd p G H) (e : Same H H') : Gnd p G H' := g.nta fun b o _ _ h3 => e b o h3
theorem Gnd.ex {p : Addr} {G H H' : Hp} (g : Gnd p G H) (e : Ex p H H') : Gnd p G H' := g.nta fun b o h1 _ h3 => e.keep b o h1 h3
theorem Gnd.put {p D : Addr} {G H : Hp} {o : HO} (g : Gnd p G H) (h : G D = none) : Gnd p G (upd H D o) :=
  ⟨fun b u e => by rw [upd_ne (ne_of_none e h)]; exact g.same b u e, g.noT, g.noP⟩
theorem NTa.of_ex {p : Addr} {H H1 G : Hp} (e : Ex p H H1) (n : NTa p H1 G) : NTa p H G := fun b o h1 h2 h3 => n b o h1 h2 (e.keep b o h1 h3)
theorem NTa.of_same {p : Addr} {H H1 G : Hp} (e : Same H H1) (n : NTa p H1 G) : NTa p H G := fun b o h1 h2 h3 => n b o h1 h2 (e b o h3)
section
variable {K : PySem.W.Frag} {C Cp p0 p1 : Addr} {i0 i1 : Nat} {p : Addr} {H G : Hp}
theorem NTa.obj (n : NTa p H G) (hp : Pot H p) {b : Addr} {o : HO} (h : H b = some o) (h1 : ∀ ps, o ≠ .tbl ps) (h2 : ∀ a b c, o ≠ potO a b c) : G b = some o := n b o (fun z => by
  obtain ⟨x, y, w, e⟩ := hp
  rw [z, e] at h
  exact h2 x y w (Option.some.inj h).symm) h1 h
theorem NTa.seqL (n : NTa p H G) (hp : Pot H p) {a : Addr} {xs : List V} (h : SqL K H a xs) (hx : ∀ x ∈ xs, ∀ i, x ≠ V.int i) (h0 : 0 < xs.length) : SqL K G a xs := by
  rcases h with (h | ⟨o, h⟩) | h
  · refine .inl (.inl (n.obj hp h (fun _ z => nomatch z) fun x y w z => ?_))
    have e : xs = [.int x, .int y, .int w] := by injection z
    exact hx (.int x) (by rw [e]; exact List.mem_cons_self) x rfl
  · exact .inl (.inr ⟨o, n.obj hp h (fun _ z => nomatch z) (fun _ _ _ z => nomatch z)⟩)
  · exact .inr h
theorem NTa.slt (n : NTa p H G) (hp : Pot H p) {a D dx : Addr} {ws : List (Option V)} (h : SlX.Slt H a D dx ws) : SlX.Slt G a D dx ws := by
  rcases h with ⟨h, rfl⟩ | ⟨h1, h2⟩
  · exact .inl ⟨n.obj hp h (fun _ z => nomatch z) (fun _ _ _ z => nomatch z), rfl⟩
  · exact .inr ⟨n.obj hp h1 (fun _ z => by unfold SlX.SlO at z; cases z) (fun _ _ _ z => by unfold SlX.SlO at z; cases z), n.obj hp h2 (fun _ z => nomatch z) (fun _ _ _ z => nomatch z)⟩
theorem PrAt.nta (n : NTa p H G) (hp : Pot H p) {x dx : Addr} {ys ys2 : List Str} {g o : Str → Int} {qs : List ((Str × Str) × Int)} (h : PrAt Cp H x dx ys ys2 g o qs) : PrAt Cp G x dx ys ys2 g o qs := by
  obtain ⟨A, B, S, ws, h1, h2, h3, h4, h5, h6, h7, h8⟩ := h
  exact ⟨A, B, S, ws, ⟨n.obj hp h1.1 (fun _ z => by unfold SlX.SlO at z; cases z) (fun _ _ _ z => by unfold SlX.SlO at z; cases z), n.obj hp h1.2 (fun _ z => nomatch z) (fun _ _ _ z => nomatch z)⟩, h2, h3, h4, h5, n.obj hp h6 (fun _ z => nomatch z) (fun _ _ _ z => nomatch z), n.obj hp h7 (fun _ z => nomatch z) (fun _ _ _ z => nomatch z), n.obj hp h8 (fun _ z => nomatch z) (fun _ _ _ z => nomatch z)⟩
end
theorem tabs_put {T : List (Addr × Str)} {H : Hp} {D : Addr} {xs ys : List V} (t : LamX.Tabs T H) (h : H D = some (.lst xs)) : LamX.Tabs T (upd H D (.lst ys)) := fun q hq => by
  obtain ⟨ps, h1, h2, h3⟩ := t q hq
  have n1 : q.1 ≠ D := fun z => by rw [z, h] at h1; cases h1
  refine ⟨ps, by rw [upd_ne n1]; exact h1, h2, fun pos cv hc => ?_⟩
  obtain ⟨c, e1, e2⟩ := h3 pos cv hc
  have n2 : c ≠ D := fun z => by
    rw [z, h] at e2
    unfold LamX.CodeO at e2
    cases e2
  exact ⟨c, e1, by rw [upd_ne n2]; exact e2⟩
theorem pot_extN {p : Addr} {H H' : Hp} (hp : Pot H p) (e : LamX.ExtN H H') : Pot H' p := by
  obtain ⟨a, b, c, h⟩ := hp
  exact ⟨a, b, c, e _ _ h fun _ z => nomatch z⟩
theorem pot_same {p : Addr} {H H' : Hp} (hp : Pot H p) (e : Same H H') : Pot H' p := by
  obtain ⟨a, b, c, h⟩ := hp
  exact ⟨a, b, c, e _ _ h⟩
theorem new_ne {p q : Addr} {H : Hp} (hp : Pot H p) (hq : H q = none) : q ≠ p := by
  obtain ⟨_, _, _, e⟩ := hp
  exact (ne_of_none e hq).symm
theorem pot_put {p D : Addr} {H : Hp} {o : HO} (hp : Pot H p) (n : D ≠ p) : Pot (upd H D o) p := by
  obtain ⟨a, b, c, h⟩ := hp
  exact ⟨a, b, c, by rw [upd_ne n.symm]; exact h⟩
/-- the table of the def x is among those that are watched -/
structure MkT (K : PySem.W.Frag) (mg : Str → Option Value) (base : Heap) (T : List (Addr × Str)) (x : Str) : Prop where
  tb : LamX.TabB base mg (cdX K x) (tbX K x)
  mem : (tbX K x, x ++ ".<locals>." ++ "<lambda>") ∈ T
  uni : ∀ p ∈ T, p.1 = tbX K x → p.2 = x ++ ".<locals>." ++ "<lambda>"
/-- a call that may raise, as a lambda's reading -/
abbrev tRd (sp : Sp) (ta : TA) : XK → TE := fun E σ H Q => ta σ H fun vs H1 => sp vs H1 Q E
/-- a call that raises nothing, as a lambda's reading -/
abbrev tRc (sp : Sp) (ta : TA) : XK → TE := fun _ => tCall sp [] E0 ta
theorem tabs_ex {T : List (Addr × Str)} {p : Addr} {H H' : Hp} (t : LamX.Tabs T H) (hp : Pot H p) (e : Ex p H H') : LamX.Tabs T H' := fun q hq => by
  obtain ⟨ps, h1, h2, h3⟩ := t q hq
  obtain ⟨a, b, c, hpp⟩ := hp
  have n1 : q.1 ≠ p := fun z => by rw [z, hpp] at h1; cases h1
  refine ⟨ps, e.keep _ _ n1 h1, h2, fun pos cv hc => ?_⟩
  obtain ⟨c', e1, e2⟩ := h3 pos cv hc
  have n2 : c' ≠ p := fun z => by
    rw [z, hpp] at e2
    unfold LamX.CodeO at e2
    cases e2
  exact ⟨c', e1, e.keep _ _ n2 e2⟩
theorem Gnd.trans {p : Addr} {G H H' : Hp} (g : Gnd p G H) (g' : Gnd p (Gb p H) H') : Gnd p G H' :=
  ⟨fun b o e => g'.same b o (gb_keep b o (fun z => by rw [z, g.noP] at e; cases e) (fun ps z => g.noT b ps (by rw [← z]; exact e)) (g.same b o e)), g.noT, g.noP⟩
theorem Gnd.toNTa {p : Addr} {H H' : Hp} (g : Gnd p (Gb p H) H') : NTa p H H' := fun b o hb ho e => g.same b o (gb_keep b o hb ho e)
theorem NTa.seqInts {K : PySem.W.Frag} {p a : Addr} {H H' : Hp} {xs : List V} (n : NTa p H H') (ha : ∀ o, H a = some o → a ≠ p) (h : SqL K H a xs) : SqL K H' a xs := by
  rcases h with (h | ⟨o, h⟩) | h
  · exact .inl (.inl (n _ _ (ha _ h) (fun _ z => nomatch z) h))
  · exact .inl (.inr ⟨o, n _ _ (ha _ h) (fun _ z => nomatch z) h⟩)
  · exact .inr h
theorem NTa.trans {p : Addr} {H H1 H2 : Hp} (a : NTa p H H1) (b : NTa p H1 H2) : NTa p H H2 := fun x o h1 h2 h3 => b x o h1 h2 (a x o h1 h2 h3)
theorem NTa.ex {p : Addr} {H H1 : Hp} (e : Ex p H H1) : NTa p H H1 := fun b o h1 _ h3 => e.keep b o h1 h3
theorem ex_same {p : Addr} {H H' : Hp} (hp : Pot H p) (e : Same H H') : Ex p H H' := ⟨fun b o _ h => e b o h, pot_same hp e⟩
end MN
/-! _law_told_by: what a call tells, as a word and a value -/
namespace MN
open PySem PySem.Spec PyProof.Rows L2 MNE
/-- the word and the value, as a new tuple -/
def toldQ (z : Str) (v : V) (Q : VK) (H : Hp) : Prop := 2 ≤ sizeLine ∧ ∀ q, H q = none → Q (.ref q) (upd H q (.tup [.str z, v]))
/-- the two errors, told by their words -/
def toldE (K : PySem.W.Frag) (eC eO : Addr) (Q : VK) : XK := fun cls _ H => ∃ b, PySem.W.exmOne K cls (.ref eC) = some b ∧ (b = true → toldQ "change" .non Q H) ∧ (b = false → ∃ b2, PySem.W.exmOne K cls (.ref eO) = some b2 ∧ (b2 = true → toldQ "operation" .non Q H) ∧ (b2 = false → False))
def TTold5 (K : PySem.W.Frag) (eC eO : Addr) : (XK → Hp → VK → Prop) → Hp → VK → Prop := fun tl H Q => tl (toldE K eC eO Q) H (fun v H' => toldQ "told" v Q H')
def tWord (z : Str) : TS := tRet (tTup (tCons (tC (.str z)) (tCons (tC .non) tNil)))
/-- the two classes by name -/
structure Ers5 (K : PySem.W.Frag) (mg : Str → Option Value) (eC eO : Addr) : Prop where
  gC : mg "InvalidChange" = some (.ref eC)
  gO : mg "InvalidOperation" = some (.ref eO)
  cc : PySem.W.exmOne K (.ref eC) (.ref eC) = some true
  oc : PySem.W.exmOne K (.ref eO) (.ref eC) = some false
  oo : PySem.W.exmOne K (.ref eO) (.ref eO) = some true
theorem Ers5.change {K : PySem.W.Frag} {mg : Str → Option Value} {eC eO : Addr} (E : Ers5 K mg eC eO) {Q : VK} {H : Hp} {d : Option Addr} (h : toldQ "change" .non Q H) : toldE K eC eO Q (.ref eC) d H := ⟨true, E.cc, fun _ => h, fun z => nomatch z⟩
theorem Ers5.oper {K : PySem.W.Frag} {mg : Str → Option Value} {eC eO : Addr} (E : Ers5 K mg eC eO) {Q : VK} {H : Hp} {d : Option Addr} (h : toldQ "operation" .non Q H) : toldE K eC eO Q (.ref eO) d H := ⟨false, E.oc, (fun z => nomatch z), fun _ => ⟨true, E.oo, fun _ => h, fun z => nomatch z⟩⟩
section
variable {X : Cx} {eC eO : Addr}
theorem told5_gives {g : Addr} {cdg : Value} {q : Str} (E : Ers5 X.K X.mg eC eO) :
    LamX.GivesTo X ["_law_call"] "_law_told_by" (defScope (top 49)) g cdg (defBody (top 49)) "_law_call" q (TTold5 X.K eC eO) := by
  intro f c' s H Q tl act hco h
  let Z : Cx := (cxOf C8.CX0 X.prog X.w X.K X.mg X.base ["_law_call"] "_law_told_by" (defScope (top 49)) g cdg X.A X.stack s H C8.E0).nox
  refine ⟨_, pss_one (ps_try_n (X := Z) (l := [(.ref eC, none, fun _ _ _ => tWord "change"), (.ref eO, none, fun _ _ _ => tWord "operation")]) rfl rfl LamX.takes0
    (tb := fun W D σ H => ∃ E : XK, (∀ cls d σ' H', E cls d H' → W cls d σ' H') ∧ σ[0]? = some (some (.ref f)) ∧ H c' = some (LamX.CodeO c' q) ∧ tl E H (fun v H' => toldQ "told" v D.rt H')) (fun W pn xe tk => ?_) ?_), ?_⟩
  · refine ⟨fun pins s1 σ H1 D I h1 => ?_⟩
    obtain ⟨E1, hW, h2, h3, h4⟩ := h1
    exact (pss_one (ps_ret (pe_tup (pa_cons pe_str (pa_cons (act W pn xe E1 _ _ tk hW) pa_nil))))).run pins s1 σ H1 D I ⟨h2, h3, h4⟩
  · refine .plain ⟨rfl, by decide, .inl E.gC⟩ (fun a oe cls d pn _ _ => pss_one (ps_ret (pe_tup (pa_cons pe_str (pa_cons pe_non pa_nil))))) ?_
    refine .plain ⟨rfl, by decide, .inl E.gO⟩ (fun a oe cls d pn _ _ => pss_one (ps_ret (pe_tup (pa_cons pe_str (pa_cons pe_non pa_nil))))) ?_
    exact .nil
  · refine ⟨toldE X.K eC eO Q, fun cls d σ' H' e => ?_, rfl, hco, h⟩
    obtain ⟨b, e1, y, n⟩ := e
    refine ⟨b, e1, fun hb a _ => y hb, fun hb => ?_⟩
    obtain ⟨b2, e2, y2, n2⟩ := n hb
    exact ⟨b2, e2, fun hb a _ => y2 hb, fun hb => n2 hb⟩
theorem pe_told {t : XK → TE} {T : List (Addr × Str)} {c P : Addr} {k : Nat} {params : Arguments} {body : Expr} {scope : Scope} {p lpos pos : Pos} (A : At X.K X.mg "_law_told_by" (top 49)) (E : Ers5 X.K X.mg eC eO)
    (TB : LamX.TabB X.base X.mg c P) (hcode : X.env.code = .ref c) (hmT : (P, X.env.qual ++ "<lambda>") ∈ T) (hu : ∀ p ∈ T, p.1 = P → p.2 = X.env.qual ++ "<lambda>") (hr : Room (k + 2) X.A) (hg : Gl X "_law_told_by") (L : LamX.LamS X.env.scope scope) (hdef : defaultsOf params X.env = ([], []))
    (hbind : ∀ (q : Str) (cl : List (Str × Addr)) (pm cv ctv : Value), bindArgs (PySem.W.kla_fn "<lambda>" q params body scope cl pm cv ctv) ⟨[], []⟩ = pure [])
    (hbody : ∀ (A : Around) (outer : List Env) (s : Shared) (H : Hp) (E : XK) (f c' : Addr), Room k (A.deeper (LamX.lamEnv X scope s.heap.objs.size f c')) → PE (LamX.lamCx X A outer s H E scope f c') body (t E)) :
    PE X (.Call (.Name "_law_told_by" p) [.Lambda params body scope lpos] [] pos) (LamX.tLam T (TTold5 X.K eC eO) t) := by
  obtain ⟨f, fd, F, hm⟩ := A
  have b := F.bindsN (ps := ["_law_call"]) fun _ _ _ _ _ _ us hl => match us, hl with | [_], _ => rfl
  obtain ⟨oc, od, dV, kV, doc, pm, an, cdv, ct, osl, e, lk, hcd, -, -⟩ := F.ex
  subst e
  exact LamX.pe_lamcall hg hm F.kp lk hcd b (Ng := ["_law_call"]) ⟨rfl, rfl, rfl, by decide +kernel, rfl, by decide +kernel, by decide +kernel⟩ rfl (.inl rfl) (told5_gives E) TB hcode hmT hu hr L hdef hbind hbody
end
end MN
/-! what each of the three calls tells; the list of what was told -/
namespace MN
open PySem PySem.Spec PyProof.Rows L2 MNE
def isLT : HO → Bool
  | .tbl _ => true
  | .lst _ => true
  | _ => false
/-- the heap without its lists and tables -/
def Tp (H : Hp) : Hp := fun b => match H b with
  | some o => if isLT o = true then none else some o
  | none => none
theorem tp_of {H : Hp} {b : Addr} {o : HO} (h : H b = some o) (n : isLT o = false) : Tp H b = some o := by
  unfold Tp
  rw [h]
  show (if isLT o = true then none else some o) = some o
  rw [n]
  rfl
theorem tp_get {H : Hp} {b : Addr} {o : HO} (h : Tp H b = some o) : H b = some o ∧ isLT o = false := by
  unfold Tp at h
  cases q : H b with
  | none => rw [q] at h; cases h
  | some u =>
    rw [q] at h
    have h' : (if isLT u = true then none else some u) = some o := h
    cases hu : isLT u with
    | true => rw [hu] at h'; cases h'
    | false => rw [hu] at h'; cases h'; exact ⟨rfl, hu⟩
theorem tp_le {H : Hp} : Same (Tp H) H := fun _ _ h => (tp_get h).1
theorem tp_same {H H' : Hp} (e : Same H H') : Same (Tp H) (Tp H') := fun b o h => tp_of (e b o (tp_get h).1) (tp_get h).2
theorem tp_extN {H H' : Hp} (e : LamX.ExtN H H') : Same (Tp H) (Tp H') := fun b o h => by
  obtain ⟨h1, h2⟩ := tp_get h
  exact tp_of (e b o h1 fun ps z => by rw [z] at h2; cases h2) h2
theorem tp_put {H : Hp} {D : Addr} {xs ys : List V} (h : H D = some (.lst xs)) : Same (Tp H) (Tp (upd H D (.lst ys))) := fun b o hb => by
  obtain ⟨h1, h2⟩ := tp_get hb
  exact tp_of (by rw [upd_ne (fun z => by rw [z, h] at h1; cases h1; cases h2)]; exact h1) h2
theorem tp_ex {p : Addr} {H H' : Hp} (hp : Pot H p) (e : Ex p H H') : Same (Tp H) (Tp H') := fun b o h => by
  obtain ⟨h1, h2⟩ := tp_get h
  exact tp_of (e.keep b o (fun z => by obtain ⟨x, y, w, q⟩ := hp; rw [z, q] at h1; cases h1; cases h2) h1) h2
theorem tp_gb {p : Addr} {H : Hp} (hp : Pot H p) : Same (Tp H) (Gb p H) := fun b o h => by
  obtain ⟨h1, h2⟩ := tp_get h
  exact gb_keep b o (fun z => by obtain ⟨x, y, w, q⟩ := hp; rw [z, q] at h1; cases h1; cases h2) (fun ps z => by rw [z] at h2; cases h2) h1
theorem seqT_tp {K : PySem.W.Frag} {H : Hp} {a : Addr} {xs : List V} (h : SqT K H a xs) : SqT K (Tp H) a xs := by
  rcases h with (h | ⟨o, h⟩) | h
  · exact .inl (.inl (tp_of h rfl))
  · exact .inl (.inr ⟨o, tp_of h rfl⟩)
  · exact .inr h
theorem dats_tp {K : PySem.W.Frag} {H : Hp} : ∀ {cs : List Ch5} {vs : List V}, DpAll K H vs (cs.map Ch5.dat) → DpAll K (Tp H) vs (cs.map Ch5.dat)
  | [], _, .nil => .nil
  | c :: cs, _, .cons h r => .cons (by
      obtain ⟨t, rfl, ht⟩ := dp_vals h
      exact vals_dp (seqT_tp ht)) (dats_tp r)
theorem row_tp {K : PySem.W.Frag} {H : Hp} {cs : List Ch5} {v : V} (h : Dp K H v (.tuple (cs.map Ch5.dat))) : Dp K (Tp H) v (.tuple (cs.map Ch5.dat)) := by
  cases h with
  | tup h1 h2 => exact .tup (seqT_tp h1) (dats_tp h2)
theorem row_uniq {u : List Nat} {d : PyData} {a b : List Ch5} (h : IsRow5 u d a) (h' : IsRow5 u d b) : a = b := by
  have := h.2.symm.trans h'.2
  injection this with this
  exact (List.map_inj_right fun _ _ h => Ch5.dat_inj h).mp this
/-! ### what is told -/
def tdD (z : Str) (d : PyData) : PyData := .tuple [.str z, d]
def IsO5 (u : List Nat) (d : PyData) : Option (List Ch5) → Prop
  | some cs => IsRow5 u d cs
  | none => ∀ cs, ¬ IsRow5 u d cs
def dC5 (u : List Nat) : Option (List Ch5) → PyData
  | some cs => tdD "told" (.str (wS (lastW u cs)))
  | none => tdD "change" .none
def dU5 (u : List Nat) : Option (List Ch5) → PyData
  | some cs => tdD "told" (.tuple ((wayBack u cs).map Ch5.dat))
  | none => tdD "change" .none
def paidD : Option Int → PyData
  | some n => tdD "told" (.int n)
  | none => tdD "operation" .none
def dP5 (r : Nd → Nd → Option Int) (u : List Nat) : Option (List Ch5) → PyData
  | some cs => paidD (tot5 (pcs5 r u cs))
  | none => tdD "change" .none
theorem toldQ_of {K : PySem.W.Frag} {z : Str} {v : V} {d : PyData} {Q : VK} {H1 H : Hp} (e : Same H1 H) (hv : Dp K (Tp H) v d) (q : ∀ v H2, Same H1 H2 → Dp K (Tp H2) v (tdD z d) → Q v H2) : toldQ z v Q H :=
  ⟨(by decide), fun r hr => q _ _ (e.trans (same_new hr)) (.tup (.inl (.inl (tp_of upd_same rfl))) (.cons (.str z) (.cons (dp_same (tp_same (same_new hr)) _ _ hv) .nil)))⟩
/-- what the call tells, whatever comes behind -/
def CallT (K : PySem.W.Frag) (eC eO p : Addr) (G : Hp) (σ : L2.St) (d : PyData) (t : XK → TE) : Prop := ∀ (H1 : Hp) (Q : VK), Gnd p G H1 → (∀ v H2, Same H1 H2 → Dp K (Tp H2) v d → Q v H2) → TTold5 K eC eO (fun E H' Q' => t E σ H' Q') H1 Q
section
variable {K : PySem.W.Frag} {mg : Str → Option Value} {eC eO p Cp : Addr} {G : Hp} {σ : L2.St} {u : List Nat} {v : V} {d : PyData} {oc : Option (List Ch5)}
theorem call_ch (E : Ers5 K mg eC eO) (h2 : σ[2]? = some (some (.str (wS u)))) (h3 : σ[3]? = some (some v)) (su : ∀ a ∈ u, a ∈ abc) (lu : u.length ≤ 1000) (hd : RowD K G v d) (ho : IsO5 u d oc) : CallT K eC eO p G σ (dC5 u oc) (tRd (spChanged5 K eC) (tCons (tVar 2) (tCons (tVar 3) tNil))) := by
  intro H1 Q g q
  refine ⟨_, h2, _, h3, u, v, d, rfl, su, lu, hd.same g.same, fun cs h H' e => ?_, fun no H' e => ?_⟩
  · cases oc with
    | none => exact absurd h (ho cs)
    | some cs' =>
      cases row_uniq h ho
      exact toldQ_of e (.str _) q
  · cases oc with
    | none => exact E.change (toldQ_of e .non q)
    | some cs' => exact absurd ho (no cs')
theorem call_un (E : Ers5 K mg eC eO) (h2 : σ[2]? = some (some (.str (wS u)))) (h3 : σ[3]? = some (some v)) (su : ∀ a ∈ u, a ∈ abc) (lu : u.length ≤ 1000) (hd : RowD K G v d) (ho : IsO5 u d oc) : CallT K eC eO p G σ (dU5 u oc) (tRd (spUndone5 K eC) (tCons (tVar 2) (tCons (tVar 3) tNil))) := by
  intro H1 Q g q
  refine ⟨_, h2, _, h3, u, v, d, rfl, su, lu, hd.same g.same, fun cs h t H' e _ hd' => ?_, fun no H' e => ?_⟩
  · cases oc with
    | none => exact absurd h (ho cs)
    | some cs' =>
      cases row_uniq h ho
      exact toldQ_of e (row_tp hd') q
  · cases oc with
    | none => exact E.change (toldQ_of e .non q)
    | some cs' => exact absurd ho (no cs')
theorem call_pr (E : Ers5 K mg eC eO) {x dx : Addr} {ys ys2 : List Str} {g o : Str → Int} {qs : List ((Str × Str) × Int)} (h0 : σ[0]? = some (some (.ref x))) (h2 : σ[2]? = some (some (.str (wS u)))) (h3 : σ[3]? = some (some v)) (su : ∀ a ∈ u, a ∈ abc) (lu : u.length ≤ 1000) (hd : RowD K G v d) (hP : PrAt Cp G x dx ys ys2 g o qs) (N : PrN ys ys2 g o qs) (ho : IsO5 u d oc) :
    CallT K eC eO p G σ (dP5 (rOf (codesOf ys) g o qs) u oc) (tRd (spPrice5 K Cp eC eO) (tCons (tVar 2) (tCons (tVar 3) (tCons (tVar 0) tNil)))) := by
  intro H1 Q gg q
  refine ⟨_, h2, _, h3, _, h0, u, v, d, x, dx, ys, ys2, g, o, qs, rfl, su, lu, hd.same gg.same, hP.same gg.same, N, fun cs h => ?_, fun no H' e => ?_⟩
  · cases oc with
    | none => exact absurd h (ho cs)
    | some cs' =>
      cases row_uniq h ho
      refine ⟨fun hn H' e => E.oper (toldQ_of (K := K) e .non fun v H2 e2 hv => q v H2 e2 ?_), fun n hn H' e => toldQ_of (K := K) e (.int n) fun v H2 e2 hv => q v H2 e2 ?_⟩
      · show Dp K (Tp H2) v (paidD _)
        rw [hn]
        exact hv
      · show Dp K (Tp H2) v (paidD _)
        rw [hn]
        exact hv
  · cases oc with
    | none => exact E.change (toldQ_of e .non q)
    | some cs' => exact absurd ho (no cs')
end
/-! ### the list of what was told -/
/-- the list at L holds such data, none of it in a list -/
structure LsT (K : PySem.W.Frag) (H : Hp) (L : Addr) (ds : List PyData) : Prop where
  ex : ∃ vs, H L = some (.lst vs) ∧ DpAll K (Tp H) vs ds
section
variable {K : PySem.W.Frag} {H H' : Hp} {L : Addr} {ds : List PyData}
theorem LsT.extN (h : LsT K H L ds) (e : LamX.ExtN H H') : LsT K H' L ds := by
  obtain ⟨vs, h1, h2⟩ := h.ex
  exact ⟨vs, e _ _ h1 (fun _ z => nomatch z), dpa_same (tp_extN e) _ _ h2⟩
theorem LsT.same (h : LsT K H L ds) (e : Same H H') : LsT K H' L ds := by
  obtain ⟨vs, h1, h2⟩ := h.ex
  exact ⟨vs, e _ _ h1, dpa_same (tp_same e) _ _ h2⟩
theorem LsT.dp (h : LsT K H L ds) : Dp K H (.ref L) (.list ds) := by
  obtain ⟨vs, h1, h2⟩ := h.ex
  exact .lst (SqL.of h1) (dpa_same tp_le _ _ h2)
theorem LsT.gb {p : Addr} (h : LsT K H L ds) (hp : Pot H p) (n : L ≠ p) : Dp K (Gb p H) (.ref L) (.list ds) := by
  obtain ⟨vs, h1, h2⟩ := h.ex
  exact .lst (SqL.of (gb_keep _ _ n (fun _ z => nomatch z) h1)) (dpa_same (tp_gb hp) _ _ h2)
theorem LsT.app {vs : List V} {v : V} {d : PyData} (h1 : H L = some (.lst vs)) (h2 : DpAll K (Tp H) vs ds) (hv : Dp K (Tp H) v d) : LsT K (upd H L (.lst (vs ++ [v]))) L (ds ++ [d]) :=
  ⟨_, upd_same, dpa_same (tp_put h1) _ _ (dpa_app h2 (.cons hv .nil))⟩
end
/-- amid the telling -/
structure ToI (K : PySem.W.Frag) (T : List (Addr × Str)) (p : Addr) (G : Hp) (L : Addr) (ds : List PyData) (H : Hp) : Prop where
  gnd : Gnd p G H
  tabs : LamX.Tabs T H
  pot : Pot H p
  lst : LsT K H L ds
  nG : G L = none
  ne : L ≠ p
theorem gnd_none {p b : Addr} {G H : Hp} (g : Gnd p G H) (h : H b = none) : G b = none := by
  cases q : G b with
  | none => rfl
  | some o => rw [g.same b o q] at h; cases h
theorem gnd_gb {p : Addr} {G H : Hp} (g : Gnd p G H) : Same G (Gb p H) := fun b o e => gb_keep b o (fun z => by rw [z, g.noP] at e; cases e) (fun ps z => g.noT b ps (by rw [← z]; exact e)) (g.same b o e)
/-- D.append(_law_told_by(lambda: ..)) -/
def tStep5 (K : PySem.W.Frag) (i : Nat) (T : List (Addr × Str)) (eC eO : Addr) (t : XK → TE) : TS := fun Dd σ H => ∃ D xs, σ[i]? = some (some (.ref D)) ∧ H D = some (.lst xs) ∧ LamX.tLam T (TTold5 K eC eO) t σ H fun v H2 => rAppend (.ref D) [v] H2 fun _ H' => Dd.nx σ H'
theorem PS.imp5 {X : Cx} {st : Stmt} {t t' : TS} (h : PS X st t) (i : ∀ D σ H, t' D σ H → t D σ H) : PS X st t' := ⟨fun pins s σ H D I q => h.run pins s σ H D I (i _ _ _ q)⟩
theorem ps_step5 {X : Cx} {K : PySem.W.Frag} (hK : X.K = K) {i : Nat} {T : List (Addr × Str)} {eC eO : Addr} {t : XK → TE} {o e : Expr} {apos cpos pos : Pos} (ho : PE X o (tVar i)) (he : PE X e (LamX.tLam T (TTold5 K eC eO) t))
    (hsw : swapsWith (.Call (.Attribute o "append" apos) [e] [] cpos) none pos.line X.env = pure false := by rfl) (hbase : attributeBase o "append" X.env (eval o X.env) = eval o X.env := by rfl)
    (hfew : ((backTo cpos (starEach [e] X.env)).all (fun x => !x.1) && (backToKw cpos (keywordEach [] X.env)).all (fun x => x.1.isSome) && decide ([e].length + ([] : List Keyword).length + (if ([] : List Keyword).isEmpty then 0 else 1) < 30)) = true := by rfl)
    (hline : (apos.endLine == cpos.line) = true := by rfl) (hs : starEach [e] X.env = (false, eval e X.env) :: starEach [] X.env := by rfl) : PS X (.Expr (.Call (.Attribute o "append" apos) [e] [] cpos) pos) (tStep5 K i T eC eO t) := by
  refine PS.imp5 (ps_expr (pe_append K hK ho he hbase hfew hline hs) hsw) (fun Dd σ H h => ?_)
  obtain ⟨D, xs, hσ, hD, h⟩ := h
  exact ⟨_, hσ, .inl ⟨rfl, _, SqL.of hD⟩, h⟩
section
variable {K : PySem.W.Frag} {T : List (Addr × Str)} {eC eO p : Addr} {G H : Hp} {σ : L2.St} {t : XK → TE} {Dd : Ends} {R : TS}
theorem seq_step5 {i : Nat} {L : Addr} {ds : List PyData} {d : PyData} (I : ToI K T p G L ds H) (hx : ds.length ≤ 100) (hσ : σ[i]? = some (some (.ref L))) (hc : CallT K eC eO p G σ d t) (next : ∀ H3, ToI K T p G L (ds ++ [d]) H3 → R Dd σ H3) : tSeq (tStep5 K i T eC eO t) R Dd σ H := by
  obtain ⟨vs, hL, hds⟩ := I.lst.ex
  refine ⟨L, vs, hσ, hL, I.tabs, fun H1 e1 t1 => hc H1 _ (I.gnd.extN e1) fun v H2 e2 hv => ?_⟩
  have hL2 : H2 L = some (.lst vs) := e2 _ _ (e1 _ _ hL fun _ z => nomatch z)
  have hd2 := dpa_same (tp_same e2) _ _ (dpa_same (tp_extN e1) _ _ hds)
  have hl := dpa_len hds
  refine ⟨L, vs, _, rfl, rfl, hL2, (by
    have : 1000 < sizeLine := by decide
    omega), next _ ⟨((I.gnd.extN e1).same_ e2).put I.nG, tabs_put (t1.ext e2) hL2, pot_put (pot_same (pot_extN I.pot e1) e2) I.ne, LsT.app hL2 hd2 hv, I.nG, I.ne⟩⟩
theorem seq_first5 {j : Nat} {d : PyData} (g : Gnd p G H) (tb : LamX.Tabs T H) (hp : Pot H p) (hc : CallT K eC eO p G σ d t) (next : ∀ L H3, ToI K T p G L [d] H3 → R Dd (σ.set j (some (.ref L))) H3) : tSeq (tAsg (tLst (tCons (LamX.tLam T (TTold5 K eC eO) t) tNil)) (gName j)) R Dd σ H := by
  refine ⟨tb, fun H1 e1 t1 => hc H1 _ (g.extN e1) fun v H2 e2 hv => ⟨(by show 1 ≤ sizeLine; decide), fun D hD => next D _ ?_⟩⟩
  have s2 := same_new (o := .lst [v]) hD
  have g2 := (g.extN e1).same_ e2
  have p2 := pot_same (pot_extN hp e1) e2
  exact ⟨g2.same_ s2, (t1.ext e2).ext s2, pot_same p2 s2, ⟨_, upd_same, .cons (dp_same (tp_same s2) _ _ hv) .nil⟩, gnd_none g2 hD, new_ne p2 hD⟩
end
/-! ### bounds -/
theorem sb_word {u : List Nat} (h : ∀ a ∈ u, a ∈ abc) (l : u.length ≤ 1000) : Sb 0 1000 (.str (wS u)) := Sb.str (by rw [wS_len]; exact l) (by
  unfold PyData.strOk
  rw [Array.all_eq_true_iff_forall_mem]
  intro c hc
  have h1 : c ∈ abc := h c (by simpa [wS] using hc)
  have h2 : abc = [97, 98, 99, 100, 101] := by decide +kernel
  rw [h2] at h1
  have : c = 97 ∨ c = 98 ∨ c = 99 ∨ c = 100 ∨ c = 101 := by simpa using h1
  rcases this with q | q | q | q | q <;> subst q <;> decide)
theorem sb_sgS {c : Nat} (h : c ∈ abc) : Sb 0 20 (.str (sgS c)) := by
  have := sb_word (u := [c]) (by intro a ha; rw [List.mem_singleton.mp ha]; exact h) (by show 1 ≤ 1000; decide)
  exact { this with wt := by rw [PyData.weight]; show 1 ≤ 20; decide }
theorem sb_dat {u : List Nat} {c : Ch5} (h : c.Ok u) (hl : u.length ≤ 2000) : Sb 1 63 c.dat := by
  have hz : ∀ z ∈ (["put", "out", "swap"] : List Str), Sb 0 20 (.str z) := fun z hz => by
    have : z = "put" ∨ z = "out" ∨ z = "swap" := by simpa using hz
    rcases this with rfl | rfl | rfl <;> exact Sb.str (by decide) (by decide +kernel)
  cases c with
  | put i c =>
    refine (Sb.tuple (n := 0) (w := 20) fun d hd => ?_).mono (Nat.le_refl _) (by show 3 * 21 ≤ 63; decide)
    rcases (by simpa using hd : d = .str "put" ∨ d = .int ((i : Nat) : Int) ∨ d = .str (sgS c)) with rfl | rfl | rfl
    · exact hz _ (by simp)
    · have := h.1
      exact Sb.int (by omega) (by omega)
    · exact sb_sgS h.2
  | out i =>
    refine (Sb.tuple (n := 0) (w := 20) fun d hd => ?_).mono (Nat.le_refl _) (by show 2 * 21 ≤ 63; decide)
    rcases (by simpa using hd : d = .str "out" ∨ d = .int ((i : Nat) : Int)) with rfl | rfl
    · exact hz _ (by simp)
    · have : i < u.length := h
      exact Sb.int (by omega) (by omega)
  | swap i c =>
    refine (Sb.tuple (n := 0) (w := 20) fun d hd => ?_).mono (Nat.le_refl _) (by show 3 * 21 ≤ 63; decide)
    rcases (by simpa using hd : d = .str "swap" ∨ d = .int ((i : Nat) : Int) ∨ d = .str (sgS c)) with rfl | rfl | rfl
    · exact hz _ (by simp)
    · have := h.1
      exact Sb.int (by omega) (by omega)
    · exact sb_sgS h.2.1
theorem sb_row {u : List Nat} {cs : List Ch5} (h : okRow u cs) (hl : u.length ≤ 1000) (hc : cs.length ≤ 40) : Sb 2 2560 (.tuple (cs.map Ch5.dat)) := by
  refine (Sb.tuple (n := 1) (w := 63) fun d hd => ?_).mono (Nat.le_refl _) (by rw [List.length_map]; omega)
  obtain ⟨c, hc2, rfl⟩ := List.mem_map.mp hd
  obtain ⟨i, hi, rfl⟩ := List.mem_iff_getElem.mp hc2
  have ok := okRow_at h (List.getElem?_eq_getElem hi)
  have h2 : okRow u (cs.take i) := by
    have := okRow_app (u := u) (a := cs.take i) (b := cs.drop i)
    rw [List.take_append_drop] at this
    exact (this.mp h).1
  have := lastW_len h2
  have h3 : (cs.take i).length ≤ 40 := by rw [List.length_take]; omega
  exact sb_dat ok (by omega)
theorem sb_td {z : Str} {d : PyData} {n w : Nat} (hz : Sb 0 20 (.str z)) (h : Sb n w d) (hw : 20 ≤ w) : Sb (n + 1) (2 * (w + 1)) (tdD z d) := Sb.tuple (l := [.str z, d]) fun e he => by
  rcases (by simpa using he : e = .str z ∨ e = d) with rfl | rfl
  · exact hz.mono (Nat.zero_le _) hw
  · exact h
theorem tot5_bd {l : List (Option Int)} (h : ∀ n, some n ∈ l → 1 ≤ n ∧ n ≤ 18) {m : Int} (hm : tot5 l = some m) : 0 ≤ m ∧ m ≤ 18 * l.length := by
  induction l generalizing m with
  | nil => cases hm; exact ⟨Int.le_refl _, by simp⟩
  | cons a l ih =>
    cases a with
    | none => cases hm
    | some n =>
      obtain ⟨k, hk, rfl⟩ := Option.map_eq_some_iff.mp (show (tot5 l).map (fun m => n + m) = some m from hm)
      have h1 := ih (fun n hn => h n (List.mem_cons_of_mem _ hn)) hk
      have h2 := h n List.mem_cons_self
      rw [List.length_cons]
      omega
theorem pcs5_mem {r : Nd → Nd → Option Int} : ∀ {u : List Nat} {cs : List Ch5} {o : Option Int}, o ∈ pcs5 r u cs → ∃ x y, o = r x y
  | u, [], o, h => by cases h
  | u, c :: cs, o, h => by
    rcases List.mem_cons.mp h with rfl | h
    · exact ⟨_, _, rfl⟩
    · exact pcs5_mem (u := c.app u) (cs := cs) h
/-- what should be told -/
def due5 (r : Nd → Nd → Option Int) (u : List Nat) (oc : Option (List Ch5)) : List PyData := [dC5 u oc, dU5 u oc, dP5 r u oc]
theorem sb_due {zs zs2 : List Str} {g o : Str → Int} {ps : List ((Str × Str) × Int)} (N : PrN zs zs2 g o ps) {u : List Nat} {d : PyData} {oc : Option (List Ch5)} (ho : IsO5 u d oc) (su : ∀ a ∈ u, a ∈ abc) (lu : u.length ≤ 950) (lc : ∀ cs, oc = some cs → cs.length ≤ 40) : Sb 4 20000 (.list (due5 (rOf (codesOf zs) g o ps) u oc)) := by
  have zt : Sb 0 20 (.str "told") := Sb.str (by decide) (by decide +kernel)
  have zc : Sb 0 20 (.str "change") := Sb.str (by decide) (by decide +kernel)
  have zo : Sb 0 20 (.str "operation") := Sb.str (by decide) (by decide +kernel)
  have cn : Sb 3 6000 (tdD "change" .none) := (sb_td zc (Sb.none.mono (Nat.le_refl _) (show 0 ≤ 20 by decide)) (by decide)).mono (by decide) (by decide)
  refine (Sb.list (n := 3) (w := 6000) fun e he => ?_).mono (by decide) (by show 3 * 6001 ≤ 20000; decide)
  rcases (by simpa [due5] using he : e = dC5 u oc ∨ e = dU5 u oc ∨ e = dP5 (rOf (codesOf zs) g o ps) u oc) with rfl | rfl | rfl
  · cases oc with
    | none => exact cn
    | some cs =>
      have l2 := lc cs rfl
      have l3 := lastW_len ho.1
      exact (sb_td zt (sb_word (lastW_sg ho.1 su) (by omega)) (by decide)).mono (by decide) (by decide)
  · cases oc with
    | none => exact cn
    | some cs =>
      have l2 := lc cs rfl
      have l3 := lastW_len ho.1
      obtain ⟨w1, _, _⟩ := wayBack_ok ho.1 su
      exact (sb_td zt (sb_row w1 (by omega) (by rw [wayBack, List.length_reverse, backs_len]; exact l2)) (by decide)).mono (by decide) (by decide)
  · cases oc with
    | none => exact cn
    | some cs =>
      have l2 := lc cs rfl
      show Sb 3 6000 (paidD (tot5 (pcs5 (rOf (codesOf zs) g o ps) u cs)))
      cases hm : tot5 (pcs5 (rOf (codesOf zs) g o ps) u cs) with
      | none => exact (sb_td zo (Sb.none.mono (Nat.le_refl _) (show 0 ≤ 20 by decide)) (by decide)).mono (by decide) (by decide)
      | some m =>
        have h1 := tot5_bd (fun n hn => by
          obtain ⟨x, y, e⟩ := pcs5_mem hn
          exact ⟨rOf_pos N x y n e.symm, rOf_le N e.symm⟩) hm
        rw [pcs5_len] at h1
        exact (sb_td zt (Sb.int (k := m) (by omega) (by omega)) (by decide)).mono (by decide) (by decide)
theorem RowD.repr {K : PySem.W.Frag} {H : Hp} {v : V} {d : PyData} (h : RowD K H v d) : ReprV K H v d.shown := by
  rcases h with ⟨h1, h2, _⟩ | ⟨a, rfl, h2, rfl⟩
  · obtain ⟨z, h3, rfl⟩ := dp_repr h1 h2 (by decide) (by decide)
    exact h3
  · have : PyData.shown (.dict []) = "{}" := by decide +kernel
    rw [this]
    exact .emp h2
end MN
/-! _law_row_right: the three calls tell what is due, twice, and the way back leads back -/
namespace MN
open PySem PySem.Spec PyProof.Rows L2 MNE
section
variable {P : Program} {w : World} {K : PySem.W.Frag} {mg : Str → Option Value} {base : Heap} {Cp Cc eC eO : Addr} {T : List (Addr × Str)}
/-- a row, a word, prices and their table: all stand on the ground -/
def spRow5 (K : PySem.W.Frag) (Cp : Addr) (T : List (Addr × Str)) : Sp := fun vs H Q _ => ∃ (p x t : Addr) (u : List Nat) (v : V) (d : PyData) (dx : Addr) (ys ys2 : List Str) (g o : Str → Int) (qs : List ((Str × Str) × Int)) (TA TB TW : Addr) (zs : List Str) (ps : List ((Str × Str) × Int)),
  vs = [.ref x, .ref t, .str (wS u), v] ∧ Pot H p ∧ LamX.Tabs T H ∧ (∀ a ∈ u, a ∈ abc) ∧ u.length ≤ 950 ∧ RowD K (Gb p H) v d ∧ PrAt Cp (Gb p H) x dx ys ys2 g o qs ∧ PrN ys ys2 g o qs ∧ TblAt (Gb p H) t zs g o ps TA TB TW ∧ PrN zs zs g o ps ∧ (rOf (codesOf ys) g o qs = rOf (codesOf zs) g o ps) ∧
  ∀ H', Gnd p (Gb p H) H' → Pot H' p → LamX.Tabs T H' → Q (.bl true) H'
abbrev N_law_rr5 : List Str := ["_law_prices", "_law_table", "_law_word", "_law_row", "_law_words", "_law_text", "_law_due", "_law_total", "_law_turn", "_law_told", "_law_back"]
theorem sc_law_rr5 : FnScope N_law_rr5 ["_law_prices", "_law_table", "_law_word", "_law_row"] (defScope (top 50)) := ⟨rfl, rfl, rfl, by decide +kernel, rfl, by decide +kernel, by decide +kernel⟩
theorem c_law_row_right5 (A : AtC K mg "_law_row_right" (top 50) (cdX K "_law_row_right")) (MT : MkT K mg base T "_law_row_right") (AM : At K mg "_law_told_by" (top 49)) (EE : Ers5 K mg eC eO) (B : Blt mg) (c_law_run5 : Cal P w K mg base 2 "_law_run" (spAlong5 K)) (c_law_paid5 : Cal P w K mg base 1 "_law_paid" (spPaid5 K)) (c_law_wb5 : Cal P w K mg base 1 "_law_way_back" (spWb5 K))
    (x_changed : CalX P w K mg base 6 "changed" (spChanged5 K eC)) (x_undone : CalX P w K mg base 6 "undone" (spUndone5 K eC)) (x_price_of : CalX P w K mg base 6 "price_of" (spPrice5 K Cp eC eO)) : CalG P w K mg base 9 "_law_row_right" (spRow5 K Cp T) := by
  refine calG_ofC A sc_law_rr5 (fun _ _ _ _ _ _ us hl => match us, hl with | [_, _, _, _], _ => rfl) (fun vs H Q E h => ?_) (fun f A outer s H vs Q E gd hr h => ?_)
  · obtain ⟨_, _, _, _, _, _, _, _, _, _, _, _, _, _, _, _, _, rfl, _⟩ := h; rfl
  · obtain ⟨p, x, t, u, v, d, dx, ys, ys2, g, o, qs, TA, TB, TW, zs, ps, rfl, hp, hT, su, lu, hd, hP, NP, TT, N, er, hQ⟩ := h
    refine ⟨_, (pss_cons (ps_par (i := 4) (j := 5) (by rfl) sc_law_rr5.nd rfl rfl (by decide) rfl rfl (pa_cons (pe_c c_law_run5 hr (by decide) (by rfl) (pa_cons (pv 2) (pa_cons (pv 3) pa_nil))) (pa_cons (pe_callB (call_reprV gd hr.units) (by rfl) B.repr (by decide +kernel) (pa_cons (pv 3) pa_nil)) pa_nil)) (by rfl))
      (pss_cons (ps_if (pt_cmpR op_isN (pv 4) pe_non (nomark _)) (pss_one (ps_set (i := 6) sc_law_rr5.nd rfl (Or.inl rfl) (pe_op op_rep (pe_lst (pa_cons (pe_tup (pa_cons pe_str (pa_cons pe_non pa_nil))) pa_nil)) pe_int))) (pss_cons (ps_set (i := 7) sc_law_rr5.nd rfl (Or.inl rfl) (pe_c c_law_paid5 hr (by decide) (by rfl) (pa_cons (pv 1) (pa_cons (pv 4) (pa_cons (pv 3) pa_nil)))))
      (pss_cons (ps_set (i := 6) sc_law_rr5.nd rfl (Or.inl rfl) (pe_lst (pa_cons (pe_tup (pa_cons pe_str (pa_cons (pe_ix ix_list (pv 4) (pe_un un_neg pe_int) (fun _ _ => rfl)) pa_nil))) (pa_cons (pe_tup (pa_cons pe_str (pa_cons (pe_c c_law_wb5 hr (by decide) (by rfl) (pa_cons (pv 4) (pa_cons (pv 3) pa_nil))) pa_nil))) pa_nil))))
      (pss_one (ps_expr (pe_append K rfl (pv 6) (pe_ifExp (pt_cmpR op_isN (pv 7) pe_non (nomark _)) (pe_tup (pa_cons pe_str (pa_cons pe_non pa_nil))) (pe_tup (pa_cons pe_str (pa_cons (pv 7) pa_nil))))))))))
      (pss_cons (ps_for PassesOwn.never rfl (pi_range1 (by rfl) B.range (pa_cons pe_int pa_nil)) (pg_name (i := 8) sc_law_rr5.nd rfl (Or.inl rfl))
      (pss_cons (ps_set (i := 9) sc_law_rr5.nd rfl (Or.inl rfl) (pe_lst (pa_cons (pe_told (t := (tRd (spChanged5 K eC) (tCons (tVar 2) (tCons (tVar 3) tNil)))) (k := 6) AM EE MT.tb rfl MT.mem MT.uni hr (by rfl) (LamX.lamS_by (sc := defScope (top 50)) (by decide +kernel)) rfl (fun _ _ _ _ _ => rfl) (fun A outer s H E f c' hr' => pe_cX x_changed (takes_of rfl rfl rfl rfl) hr' (by decide) (by rfl) (pa_cons (pv 2) (pa_cons (pv 3) pa_nil)))) pa_nil)))
      (pss_cons (ps_step5 (K := K) rfl (pv 9) (pe_told (t := (tRd (spUndone5 K eC) (tCons (tVar 2) (tCons (tVar 3) tNil)))) (k := 6) AM EE MT.tb rfl MT.mem MT.uni hr (by rfl) (LamX.lamS_by (sc := defScope (top 50)) (by decide +kernel)) rfl (fun _ _ _ _ _ => rfl) (fun A outer s H E f c' hr' => pe_cX x_undone (takes_of rfl rfl rfl rfl) hr' (by decide) (by rfl) (pa_cons (pv 2) (pa_cons (pv 3) pa_nil)))))
      (pss_cons (ps_step5 (K := K) rfl (pv 9) (pe_told (t := (tRd (spPrice5 K Cp eC eO) (tCons (tVar 2) (tCons (tVar 3) (tCons (tVar 0) tNil))))) (k := 6) AM EE MT.tb rfl MT.mem MT.uni hr (by rfl) (LamX.lamS_by (sc := defScope (top 50)) (by decide +kernel)) rfl (fun _ _ _ _ _ => rfl) (fun A outer s H E f c' hr' => pe_cX x_price_of (takes_of rfl rfl rfl rfl) hr' (by decide) (by rfl) (pa_cons (pv 2) (pa_cons (pv 3) (pa_cons (pv 0) pa_nil))))))
      (pss_one (ps_if (PW.pt (pw_or (pt_cmpR op_ne (pe_callB (call_reprV gd hr.units) (by rfl) B.repr (by decide +kernel) (pa_cons (pv 9) pa_nil)) (pe_callB (call_reprV gd hr.units) (by rfl) B.repr (by decide +kernel) (pa_cons (pv 6) pa_nil)) (nomark _)) (pw_or1 (pt_cmpR op_ne (pe_callB (call_reprV gd hr.units) (by rfl) B.repr (by decide +kernel) (pa_cons (pv 3) pa_nil)) (pv 5) (nomark _))))) (pss_one (ps_ret pe_bl)) pss_nil))))))
      (pss_cons (ps_if (pt_cmpR op_isN (pv 4) pe_non (nomark _)) (pss_one (ps_ret pe_bl)) pss_nil)
      (pss_cons (ps_set (i := 10) sc_law_rr5.nd rfl (Or.inl rfl) (pe_cX x_undone LamX.takes0 hr (by decide) (by rfl) (pa_cons (pv 2) (pa_cons (pv 3) pa_nil))))
      (pss_one (ps_ret (pe_and (pe_cmpR op_eq (pe_cX x_changed LamX.takes0 hr (by decide) (by rfl) (pa_cons (pe_ix ix_list (pv 4) (pe_un un_neg pe_int) (fun _ _ => rfl)) (pa_cons (pv 10) pa_nil))) (pv 2) (nomark _)) (pe_one (pe_cmpR (op_eqD hr.units) (pe_cX x_undone LamX.takes0 hr (by decide) (by rfl) (pa_cons (pe_ix ix_list (pv 4) (pe_un un_neg pe_int) (fun _ _ => rfl)) (pa_cons (pv 10) pa_nil))) (pv 3) (nomark _))))))))))), ?_⟩
    have big : 100000 < sizeLine := by decide
    have two : 2 ≤ sizeLine := by decide
    have g0 : Gnd p (Gb p H) H := gb_gnd
    by_cases hrow : ∃ cs, IsRow5 u d cs
    · obtain ⟨cs, ho'⟩ := hrow
      have ho : IsO5 u d (some cs) := ho'
      have ok := ho'.1
      have lc : cs.length ≤ 40 := by
        rcases hd with ⟨_, _, ln⟩ | ⟨_, _, _, e⟩
        · have := ln _ ho'.2
          rwa [List.length_map] at this
        · have := ho'.2
          rw [e] at this
          cases this
      have lco : ∀ cs', some cs = some cs' → cs'.length ≤ 40 := fun cs' e => by cases e; exact lc
      refine ⟨_, rfl, _, rfl, u, v, d, rfl, by omega, hd.same g0.same, fun cs' h' W H1 e1 hW => ?_, fun no => absurd ho' (no cs)⟩
      cases row_uniq h' ho'
      have g1 := g0.same_ e1
      refine ⟨_, rfl, _, _, rfl, (hd.same g1.same).repr, _, _, rfl, ?_⟩
      refine ⟨_, rfl, rfl, _, rfl, iteF ?_⟩
      have hdp : Dp K (Gb p H) v (.tuple (cs.map Ch5.dat)) := by
        rcases hd with ⟨h1, _⟩ | ⟨_, _, _, e⟩
        · rw [ho'.2] at h1
          exact h1
        · have := ho'.2
          rw [e] at this
          cases this
      have WG1 : Gb p H1 W = some (.lst (wordsV (along u cs))) := gb_keep W _ (fun z => by
        obtain ⟨a1, a2, a3, hpp⟩ := pot_same hp e1
        rw [z, hpp] at hW
        cases cs <;> cases hW) (fun _ z => nomatch z) hW
      have hW1 : SqL K H1 W (wordsV (along u cs)) := SqL.of hW
      have lastAt : atI (wordsV (along u cs)) (-1) = some (.str (wS (lastW u cs))) := by
        have h1 : (wordsV (along u cs))[cs.length]? = some (.str (wS (lastW u cs))) := by
          rw [wordsV, List.getElem?_map, along_last]
          rfl
        exact at_last5 (by rw [wordsV, List.length_map, along_len]) h1
      have wlen := lastW_len ok
      have wsg := lastW_sg ok su
      obtain ⟨wk, wl, wb⟩ := wayBack_ok ok su
      have wbl : (wayBack u cs).length = cs.length := by rw [wayBack, List.length_reverse, backs_len]
      refine ⟨_, rfl, _, rfl, _, rfl, u, W, v, cs, t, zs, g, o, ps, TA, TB, TW, rfl, by omega, ok, lc, hW1, dp_same g1.same _ _ hdp, TT.same g1.same, N, fun H2 e2 => ?_⟩
      have g2 := g1.same_ e2
      have e12 := e1.trans e2
      refine ⟨_, rfl, _, rfl, W, _, _, _, rfl, rfl, Same.seq e2 hW1, lastAt, two, fun q1 hq1 => ?_⟩
      have s1 := same_new (o := .tup [.str "told", .str (wS (lastW u cs))]) hq1
      refine ⟨_, rfl, _, rfl, u, W, v, cs, rfl, by omega, ok, lc, Same.seq (e2.trans s1) hW1, dp_same (g2.same_ s1).same _ _ hdp, fun t1 H3 e3 hd3 => ⟨two, fun q2 hq2 => ⟨two, fun D6 hD6 => ?_⟩⟩⟩
      have s2 := same_new (o := .tup [.str "told", .ref t1]) hq2
      have s3 := same_new (o := .lst [.ref q1, .ref q2]) hD6
      have dq1 : Dp K (Tp (upd H2 q1 (.tup [.str "told", .str (wS (lastW u cs))]))) (.ref q1) (dC5 u (some cs)) := .tup (.inl (.inl (tp_of upd_same rfl))) (.cons (.str _) (.cons (.str _) .nil))
      have dq2 : Dp K (Tp (upd H3 q2 (.tup [.str "told", .ref t1]))) (.ref q2) (dU5 u (some cs)) := .tup (.inl (.inl (tp_of upd_same rfl))) (.cons (.str _) (.cons (dp_same (tp_same s2) _ _ (row_tp hd3)) .nil))
      have es : Same H1 (upd (upd H3 q2 (.tup [.str "told", .ref t1])) D6 (.lst [.ref q1, .ref q2])) := (((e2.trans s1).trans e3).trans s2).trans s3
      have lst2 : LsT K (upd (upd H3 q2 (.tup [.str "told", .ref t1])) D6 (.lst [.ref q1, .ref q2])) D6 [dC5 u (some cs), dU5 u (some cs)] := ⟨_, upd_same, .cons (dp_same (tp_same ((e3.trans s2).trans s3)) _ _ dq1) (.cons (dp_same (tp_same s3) _ _ dq2) .nil)⟩
      have nD6 : H1 D6 = none := (((e2.trans s1).trans e3).trans s2).free hD6
      generalize upd (upd H3 q2 (.tup [.str "told", .ref t1])) D6 (.lst [.ref q1, .ref q2]) = H4 at es lst2 ⊢
      have g4 := g1.same_ es
      have p4 := pot_same hp (e1.trans es)
      have t4 := hT.ext (e1.trans es)
      have ne6 : D6 ≠ p := new_ne (pot_same hp e1) nD6
      obtain ⟨vs6, h6, d6⟩ := lst2.ex
      have len6 := dpa_len d6
      refine ⟨_, rfl, .inl ⟨rfl, _, SqL.of h6⟩, _, rfl, rfl, _, rfl, ?_⟩
      cases hm : tot5 (pcs5 (rOf (codesOf zs) g o ps) u cs) with
      | none =>
        refine iteY rfl ⟨two, fun q3 hq3 => ⟨D6, vs6, _, rfl, rfl, same_new hq3 _ _ h6, by rw [len6]; show 2 < sizeLine; decide, ?_⟩⟩
        have s5 := same_new (o := .tup [.str "operation", .non]) hq3
        have lst3 : LsT K (upd (upd H4 q3 (.tup [.str "operation", .non])) D6 (.lst (vs6 ++ [.ref q3]))) D6 (due5 (rOf (codesOf zs) g o ps) u (some cs)) := LsT.app (d := dP5 (rOf (codesOf zs) g o ps) u (some cs)) (s5 _ _ h6) (dpa_same (tp_same s5) _ _ d6) (by
          show Dp K _ _ (paidD (tot5 (pcs5 (rOf (codesOf zs) g o ps) u cs)))
          rw [hm]
          exact .tup (.inl (.inl (tp_of upd_same rfl))) (.cons (.str _) (.cons .non .nil)))
        have gHd := (g4.same_ s5).put (o := .lst (vs6 ++ [.ref q3])) (gnd_none g1 nD6)
        have gHe := (((gb_gnd (p := p) (H := H1)).same_ es).same_ s5).put (o := .lst (vs6 ++ [.ref q3])) (gnd_none gb_gnd nD6)
        have potD := pot_put (o := .lst (vs6 ++ [.ref q3])) (pot_same p4 s5) ne6
        have tabD := tabs_put (ys := vs6 ++ [.ref q3]) (t4.ext s5) (s5 _ _ h6)
        generalize upd (upd H4 q3 (.tup [.str "operation", .non])) D6 (.lst (vs6 ++ [.ref q3])) = Hd at lst3 gHd gHe potD tabD ⊢
        have WG := gnd_gb gHe _ _ WG1
        rw [← er] at lst3
        have dueG := lst3.gb potD ne6
        have rowG := hd.same (gnd_gb gHd)
        have prG := hP.same (gnd_gb gHd)
        refine ⟨_, rfl, by decide, by decide, for_it (walk_range (lo := 0)) (fun i σ H' => Gnd p (Gb p Hd) H' ∧ LamX.Tabs T H' ∧ Pot H' p ∧ ∃ o7 o8 o9, σ = [some (.ref x), some (.ref t), some (.str (wS u)), some v, some (.ref W), some (.str d.shown), some (.ref D6), o7, o8, o9, none]) ⟨gb_gnd, tabD, potD, _, _, _, rfl⟩ (fun _ _ _ _ _ => trivial) (fun i y σ H5 H5' hi e yy => ?_) (fun σ H5 e => ?_)⟩
        · obtain ⟨rfl, rfl⟩ := yy
          obtain ⟨g5, t5, p5, o7, o8, o9, rfl⟩ := e
          refine seq_first5 (d := dC5 u (some cs)) g5 t5 p5 (call_ch EE rfl rfl su (by omega) rowG ho) fun L H6 I6 => ?_
          refine seq_step5 I6 (by show 1 ≤ 100; decide) rfl (call_un EE rfl rfl su (by omega) rowG ho) fun H7 I7 => ?_
          refine seq_step5 I7 (by show 2 ≤ 100; decide) rfl (call_pr EE rfl rfl rfl su (by omega) rowG prG NP ho) fun H8 I8 => ?_
          obtain ⟨z1, r1, rz1⟩ := dp_repr I8.lst.dp (sb_due NP ho su lu lco) (by decide) (by decide)
          replace rz1 : z1 = (PyData.list (due5 (rOf (codesOf ys) g o qs) u (some cs))).shown := rz1
          obtain ⟨z2, r2, rz2⟩ := dp_repr (dp_same I8.gnd.same _ _ dueG) (sb_due NP ho su lu lco) (by decide) (by decide)
          have r3 := (rowG.same I8.gnd.same).repr
          refine ⟨_, rfl, _, z1, rfl, r1, _, rfl, _, z2, rfl, r2, rfl, _, rfl, iteN (by rw [rz1, rz2, decide_eq_true rfl]; rfl) ?_⟩
          refine ⟨_, rfl, _, _, rfl, r3, _, rfl, rfl, _, rfl, iteN (by rw [decide_eq_true rfl]; rfl) ?_⟩
          exact ⟨I8.gnd, I8.tabs, I8.pot, _, _, _, rfl⟩
        · obtain ⟨g5, t5, p5, o7, o8, o9, rfl⟩ := e
          refine ⟨_, rfl, rfl, _, rfl, iteF ?_⟩
          have W5 : SqL K H5 W (wordsV (along u cs)) := Same.seq g5.same (SqL.of WG)
          refine ⟨_, rfl, _, rfl, u, v, d, rfl, su, by omega, rowG.same g5.same, fun cs' h' t6 H6 e6 _ hd6 => ?_, fun no H' e' => absurd ho' (no cs)⟩
          cases row_uniq h' ho'
          have back6 : RowD K H6 (.ref t6) (.tuple ((wayBack u cs).map Ch5.dat)) := .inl ⟨hd6, (sb_row wk (by omega) (by omega)).mono (by decide) (by decide), fun ds e => by injection e with e; rw [← e, List.length_map]; omega⟩
          have ho2 : IsRow5 (lastW u cs) (.tuple ((wayBack u cs).map Ch5.dat)) (wayBack u cs) := ⟨wk, rfl⟩
          refine ⟨_, rfl, _, rfl, W, _, _, _, rfl, rfl, Same.seq e6 W5, lastAt, _, rfl, lastW u cs, .ref t6, _, rfl, wsg, by omega, back6, fun cs' h' H7 e7 => ?_, fun no H' e' => absurd ho2 (no _)⟩
          cases row_uniq h' ho2
          rw [wl]
          refine ⟨_, rfl, rfl, true, congrArg V.bl (decide_eq_true rfl), iteT ?_⟩
          have W7 := Same.seq (e6.trans e7) W5
          refine ⟨_, rfl, _, rfl, W, _, _, _, rfl, rfl, W7, lastAt, _, rfl, lastW u cs, .ref t6, _, rfl, wsg, by omega, back6.same e7, fun cs' h' t8 H8 e8 _ hd8 => ?_, fun no H' e' => absurd ho2 (no _)⟩
          cases row_uniq h' ho2
          rw [wb] at hd8
          have sh : SeqAt.shaped (.tuple (cs.map Ch5.dat)) = true := (sb_row ok (by omega) lc).shaped (by decide)
          have e58 := (e6.trans e7).trans e8
          have hv8 : Dp K H8 v (.tuple (cs.map Ch5.dat)) := dp_same ((gHd.trans g5).same_ e58).same _ _ hdp
          refine ⟨_, rfl, _, _, hd8, hv8, sh, sh, ?_⟩
          rw [eqv_self sh]
          exact hQ _ ((gHd.trans g5).same_ e58) (pot_same p5 e58) (t5.ext e58)
      | some n =>
        refine iteN rfl ?_
        refine ⟨_, rfl, two, fun q3 hq3 => ⟨D6, vs6, _, rfl, rfl, same_new hq3 _ _ h6, by rw [len6]; show 2 < sizeLine; decide, ?_⟩⟩
        have s5 := same_new (o := .tup [.str "told", oV (some n)]) hq3
        have lst3 : LsT K (upd (upd H4 q3 (.tup [.str "told", oV (some n)])) D6 (.lst (vs6 ++ [.ref q3]))) D6 (due5 (rOf (codesOf zs) g o ps) u (some cs)) := LsT.app (d := dP5 (rOf (codesOf zs) g o ps) u (some cs)) (s5 _ _ h6) (dpa_same (tp_same s5) _ _ d6) (by
          show Dp K _ _ (paidD (tot5 (pcs5 (rOf (codesOf zs) g o ps) u cs)))
          rw [hm]
          exact .tup (.inl (.inl (tp_of upd_same rfl))) (.cons (.str _) (.cons (show Dp K _ (V.int n) (.int n) from .int n) .nil)))
        have gHd := (g4.same_ s5).put (o := .lst (vs6 ++ [.ref q3])) (gnd_none g1 nD6)
        have gHe := (((gb_gnd (p := p) (H := H1)).same_ es).same_ s5).put (o := .lst (vs6 ++ [.ref q3])) (gnd_none gb_gnd nD6)
        have potD := pot_put (o := .lst (vs6 ++ [.ref q3])) (pot_same p4 s5) ne6
        have tabD := tabs_put (ys := vs6 ++ [.ref q3]) (t4.ext s5) (s5 _ _ h6)
        generalize upd (upd H4 q3 (.tup [.str "told", oV (some n)])) D6 (.lst (vs6 ++ [.ref q3])) = Hd at lst3 gHd gHe potD tabD ⊢
        have WG := gnd_gb gHe _ _ WG1
        rw [← er] at lst3
        have dueG := lst3.gb potD ne6
        have rowG := hd.same (gnd_gb gHd)
        have prG := hP.same (gnd_gb gHd)
        refine ⟨_, rfl, by decide, by decide, for_it (walk_range (lo := 0)) (fun i σ H' => Gnd p (Gb p Hd) H' ∧ LamX.Tabs T H' ∧ Pot H' p ∧ ∃ o7 o8 o9, σ = [some (.ref x), some (.ref t), some (.str (wS u)), some v, some (.ref W), some (.str d.shown), some (.ref D6), o7, o8, o9, none]) ⟨gb_gnd, tabD, potD, _, _, _, rfl⟩ (fun _ _ _ _ _ => trivial) (fun i y σ H5 H5' hi e yy => ?_) (fun σ H5 e => ?_)⟩
        · obtain ⟨rfl, rfl⟩ := yy
          obtain ⟨g5, t5, p5, o7, o8, o9, rfl⟩ := e
          refine seq_first5 (d := dC5 u (some cs)) g5 t5 p5 (call_ch EE rfl rfl su (by omega) rowG ho) fun L H6 I6 => ?_
          refine seq_step5 I6 (by show 1 ≤ 100; decide) rfl (call_un EE rfl rfl su (by omega) rowG ho) fun H7 I7 => ?_
          refine seq_step5 I7 (by show 2 ≤ 100; decide) rfl (call_pr EE rfl rfl rfl su (by omega) rowG prG NP ho) fun H8 I8 => ?_
          obtain ⟨z1, r1, rz1⟩ := dp_repr I8.lst.dp (sb_due NP ho su lu lco) (by decide) (by decide)
          replace rz1 : z1 = (PyData.list (due5 (rOf (codesOf ys) g o qs) u (some cs))).shown := rz1
          obtain ⟨z2, r2, rz2⟩ := dp_repr (dp_same I8.gnd.same _ _ dueG) (sb_due NP ho su lu lco) (by decide) (by decide)
          have r3 := (rowG.same I8.gnd.same).repr
          refine ⟨_, rfl, _, z1, rfl, r1, _, rfl, _, z2, rfl, r2, rfl, _, rfl, iteN (by rw [rz1, rz2, decide_eq_true rfl]; rfl) ?_⟩
          refine ⟨_, rfl, _, _, rfl, r3, _, rfl, rfl, _, rfl, iteN (by rw [decide_eq_true rfl]; rfl) ?_⟩
          exact ⟨I8.gnd, I8.tabs, I8.pot, _, _, _, rfl⟩
        · obtain ⟨g5, t5, p5, o7, o8, o9, rfl⟩ := e
          refine ⟨_, rfl, rfl, _, rfl, iteF ?_⟩
          have W5 : SqL K H5 W (wordsV (along u cs)) := Same.seq g5.same (SqL.of WG)
          refine ⟨_, rfl, _, rfl, u, v, d, rfl, su, by omega, rowG.same g5.same, fun cs' h' t6 H6 e6 _ hd6 => ?_, fun no H' e' => absurd ho' (no cs)⟩
          cases row_uniq h' ho'
          have back6 : RowD K H6 (.ref t6) (.tuple ((wayBack u cs).map Ch5.dat)) := .inl ⟨hd6, (sb_row wk (by omega) (by omega)).mono (by decide) (by decide), fun ds e => by injection e with e; rw [← e, List.length_map]; omega⟩
          have ho2 : IsRow5 (lastW u cs) (.tuple ((wayBack u cs).map Ch5.dat)) (wayBack u cs) := ⟨wk, rfl⟩
          refine ⟨_, rfl, _, rfl, W, _, _, _, rfl, rfl, Same.seq e6 W5, lastAt, _, rfl, lastW u cs, .ref t6, _, rfl, wsg, by omega, back6, fun cs' h' H7 e7 => ?_, fun no H' e' => absurd ho2 (no _)⟩
          cases row_uniq h' ho2
          rw [wl]
          refine ⟨_, rfl, rfl, true, congrArg V.bl (decide_eq_true rfl), iteT ?_⟩
          have W7 := Same.seq (e6.trans e7) W5
          refine ⟨_, rfl, _, rfl, W, _, _, _, rfl, rfl, W7, lastAt, _, rfl, lastW u cs, .ref t6, _, rfl, wsg, by omega, back6.same e7, fun cs' h' t8 H8 e8 _ hd8 => ?_, fun no H' e' => absurd ho2 (no _)⟩
          cases row_uniq h' ho2
          rw [wb] at hd8
          have sh : SeqAt.shaped (.tuple (cs.map Ch5.dat)) = true := (sb_row ok (by omega) lc).shaped (by decide)
          have e58 := (e6.trans e7).trans e8
          have hv8 : Dp K H8 v (.tuple (cs.map Ch5.dat)) := dp_same ((gHd.trans g5).same_ e58).same _ _ hdp
          refine ⟨_, rfl, _, _, hd8, hv8, sh, sh, ?_⟩
          rw [eqv_self sh]
          exact hQ _ ((gHd.trans g5).same_ e58) (pot_same p5 e58) (t5.ext e58)
    · skip
      have ho : IsO5 u d none := fun cs h => hrow ⟨cs, h⟩
      have lco : ∀ cs', (none : Option (List Ch5)) = some cs' → cs'.length ≤ 40 := fun cs' e => nomatch e
      refine ⟨_, rfl, _, rfl, u, v, d, rfl, by omega, hd.same g0.same, fun cs' h' => absurd ⟨cs', h'⟩ hrow, fun no H1 e1 => ?_⟩
      have g1 := g0.same_ e1
      refine ⟨_, rfl, _, _, rfl, (hd.same g1.same).repr, _, _, rfl, ?_⟩
      refine ⟨_, rfl, rfl, _, rfl, iteT ?_⟩
      refine ⟨two, fun q1 hq1 => ⟨(by show 1 ≤ sizeLine; decide), fun L1 hL1 => ⟨L1, 3, _, rfl, rfl, upd_same, by decide, by decide, (by show 3 ≤ sizeLine; decide), fun D6 hD6 => ?_⟩⟩⟩
      have s1 := same_new (o := .tup [.str "change", .non]) hq1
      have s2 := same_new (o := .lst [.ref q1]) hL1
      have s3 := same_new (o := .lst (List.replicate (Int.toNat 3) [V.ref q1]).flatten) hD6
      have es := (s1.trans s2).trans s3
      have dq : Dp K (Tp (upd H1 q1 (.tup [.str "change", .non]))) (.ref q1) (tdD "change" .none) := .tup (.inl (.inl (tp_of upd_same rfl))) (.cons (.str _) (.cons .non .nil))
      have dq' := dp_same (tp_same (s2.trans s3)) _ _ dq
      have lst3 : LsT K (upd (upd (upd H1 q1 (.tup [.str "change", .non])) L1 (.lst [.ref q1])) D6 (.lst (List.replicate (Int.toNat 3) [V.ref q1]).flatten)) D6 (due5 (rOf (codesOf ys) g o qs) u none) := ⟨_, upd_same, .cons dq' (.cons dq' (.cons dq' .nil))⟩
      have gHd := g1.same_ es
      have potD := pot_same hp (e1.trans es)
      have tabD := hT.ext (e1.trans es)
      have ne6 : D6 ≠ p := new_ne (pot_same hp (e1.trans (s1.trans s2))) hD6
      generalize upd (upd (upd H1 q1 (.tup [.str "change", .non])) L1 (.lst [.ref q1])) D6 (.lst (List.replicate (Int.toNat 3) [V.ref q1]).flatten) = Hd at lst3 gHd potD tabD ⊢
      have dueG := lst3.gb potD ne6
      have rowG := hd.same (gnd_gb gHd)
      have prG := hP.same (gnd_gb gHd)
      refine ⟨_, rfl, by decide, by decide, for_it (walk_range (lo := 0)) (fun i σ H' => Gnd p (Gb p Hd) H' ∧ LamX.Tabs T H' ∧ Pot H' p ∧ ∃ o7 o8 o9, σ = [some (.ref x), some (.ref t), some (.str (wS u)), some v, some .non, some (.str d.shown), some (.ref D6), o7, o8, o9, none]) ⟨gb_gnd, tabD, potD, _, _, _, rfl⟩ (fun _ _ _ _ _ => trivial) (fun i y σ H5 H5' hi e yy => ?_) (fun σ H5 e => ?_)⟩
      · obtain ⟨rfl, rfl⟩ := yy
        obtain ⟨g5, t5, p5, o7, o8, o9, rfl⟩ := e
        refine seq_first5 (d := dC5 u (none)) g5 t5 p5 (call_ch EE rfl rfl su (by omega) rowG ho) fun L H6 I6 => ?_
        refine seq_step5 I6 (by show 1 ≤ 100; decide) rfl (call_un EE rfl rfl su (by omega) rowG ho) fun H7 I7 => ?_
        refine seq_step5 I7 (by show 2 ≤ 100; decide) rfl (call_pr EE rfl rfl rfl su (by omega) rowG prG NP ho) fun H8 I8 => ?_
        obtain ⟨z1, r1, rz1⟩ := dp_repr I8.lst.dp (sb_due NP ho su lu lco) (by decide) (by decide)
        replace rz1 : z1 = (PyData.list (due5 (rOf (codesOf ys) g o qs) u (none))).shown := rz1
        obtain ⟨z2, r2, rz2⟩ := dp_repr (dp_same I8.gnd.same _ _ dueG) (sb_due NP ho su lu lco) (by decide) (by decide)
        have r3 := (rowG.same I8.gnd.same).repr
        refine ⟨_, rfl, _, z1, rfl, r1, _, rfl, _, z2, rfl, r2, rfl, _, rfl, iteN (by rw [rz1, rz2, decide_eq_true rfl]; rfl) ?_⟩
        refine ⟨_, rfl, _, _, rfl, r3, _, rfl, rfl, _, rfl, iteN (by rw [decide_eq_true rfl]; rfl) ?_⟩
        exact ⟨I8.gnd, I8.tabs, I8.pot, _, _, _, rfl⟩
      · obtain ⟨g5, t5, p5, o7, o8, o9, rfl⟩ := e
        exact ⟨_, rfl, rfl, _, rfl, iteT (hQ _ (gHd.trans g5) p5 t5)⟩
end
end MN
/-! drawn words, changes and rows of changes -/
namespace MN
open PySem PySem.Spec PyProof.Rows L2 MNE
section
variable {P : Program} {w : World} {K : PySem.W.Frag} {mg : Str → Option Value} {base : Heap}
/-! ### _law_spelled -/
def spSpell5 (K : PySem.W.Frag) : Sp := fun vs H Q _ => ∃ p l m zs, vs = [.ref p, .ref l, .int m] ∧ Pot H p ∧ l ≠ p ∧ SqL K H l (strsV zs) ∧ SgnOk zs ∧ 0 ≤ m ∧ m ≤ 100 ∧ ∀ u H', (∀ c ∈ u, c ∈ codesOf zs) → (u.length : Int) ≤ m → Ex p H H' → Q (.str (wS u)) H'
abbrev N_law_spelled5 : List Str := ["_law_cup_here", "_law_letters", "_law_most", "_law_turn"]
theorem sc_law_spelled5 : FnScope N_law_spelled5 ["_law_cup_here", "_law_letters", "_law_most"] (defScope (top 41)) := ⟨rfl, rfl, rfl, by decide +kernel, rfl, by decide +kernel, by decide +kernel⟩
theorem wS_of5 {z : Str} {u : List Nat} (h : z.cps.toList = u) : z = wS u := by
  subst h
  cases z
  simp [wS]
theorem c_law_spelled5 (A : At K mg "_law_spelled" (top 41)) (B : Blt mg) (c_law_toss : Cal P w K mg base 1 "_law_toss" spDip) (c_law_choice : Cal P w K mg base 2 "_law_choice" (spPick K)) : Cal P w K mg base 3 "_law_spelled" (spSpell5 K) := by
  refine cal_of A sc_law_spelled5 (fun _ _ _ _ _ _ us hl => match us, hl with | [_, _, _], _ => rfl) (fun vs H Q E h => ?_) (fun _ cdv A outer s H vs Q E hr h => ?_)
  · obtain ⟨_, _, _, _, rfl, _⟩ := h; rfl
  · obtain ⟨p, l, n, zs, rfl, ⟨a, b, c, hp⟩, nlp, hl, ok, h0, h1, hQ⟩ := h
    refine ⟨_, (pss_one (ps_ret (pe_join pe_str (pe_lc (own := [("_law_turn", 3)]) (g := gName 3) (tt := tYes) (by rfl) sc_law_spelled5.nd (pi_range1 (by rfl) B.range (pa_cons (pe_c c_law_toss hr (by decide) (by rfl) (pa_cons (pv 0) (pa_cons (pe_op op_add (pv 2) pe_int) pa_nil))) pa_nil))
      (blkOk_by (own := [("_law_turn", 3)]) (N := N_law_spelled5) (sc := defScope (top 41)) (by decide +kernel)) (fun _ _ _ _ _ => (pg_name (i := 3) sc_law_spelled5.nd rfl (Or.inl rfl))) (fun _ _ _ _ _ => pts_nil)
      (fun _ _ _ _ _ => (pe_c c_law_choice hr (by decide) (by rfl) (pa_cons (pv 0) (pa_cons (pv 1) pa_nil)))))))), ?_⟩
    refine ⟨⟨_, rfl⟩, _, rfl, _, rfl, _, _, rfl, rfl, p, _, a, b, c, rfl, hp, by omega, by omega, fun r a1 b1 c1 r0 r1 => ?_⟩
    refine ⟨_, rfl, by omega, by omega, fun D hD => ?_⟩
    have hDp : D ≠ p := fun z => by rw [z, upd_same] at hD; cases hD
    have hD0 : H D = none := by rw [upd_ne hDp] at hD; exact hD
    have lz : (strsV zs).length = zs.length := by simp [strsV]
    have zpos := ok.pos
    have zle := ok.le
    refine lc_it (walk_range (lo := 0)) (fun i H' => Ex p H H' ∧ ∃ cs : List Nat, cs.length = i ∧ (∀ c ∈ cs, c ∈ codesOf zs) ∧ H' D = some (.lst (cs.map fun c => V.str (sgS c)))) ?_ (fun _ _ _ _ => trivial) (fun i x H1 H2 hi e y => ?_) (fun H1 e => ?_)
    · exact ⟨Ex.turn.new hD, [], rfl, (fun _ q => (nomatch q)), upd_same⟩
    · obtain ⟨rfl, rfl⟩ := y
      obtain ⟨ex, cs, hl', hw, hD1⟩ := e
      refine ⟨rfl, yes_q (iteT ?_)⟩
      refine ⟨_, rfl, _, rfl, p, l, _, rfl, ex.pot, nlp, ex.seqL hl nlp, by omega, by omega, fun v a' b' c' hv => ?_⟩
      obtain ⟨z, hz, rfl⟩ := List.mem_map.mp (show v ∈ zs.map V.str from hv)
      have zc : sgS (codeOf z) = z := nS_code (ok.one z hz)
      refine ⟨_, by rw [upd_ne hDp]; exact hD1, ?_, ?_⟩
      · rw [List.length_map]
        have : 1001 < sizeLine := by decide
        have hi' : (i : Int) < r := by omega
        omega
      · refine ⟨(ex.trans Ex.turn).put hD0 hDp, cs ++ [codeOf z], by simp [hl'], fun c hc => ?_, by rw [upd_same]; simp [zc]⟩
        rcases List.mem_append.mp hc with hc | hc
        · exact hw c hc
        · rw [List.mem_singleton.mp hc]
          exact code_mem ok.one hz
    · obtain ⟨ex, cs, hl', hw, hD1⟩ := e
      have hle : cs.length ≤ 1000 := by omega
      refine ⟨_, D, cs.map fun c => (⟨#[c]⟩ : Str), rfl, rfl, .inl (SqL.of (by rw [hD1, List.map_map]; rfl)), ?_, ?_⟩
      · have e1 : ((cs.map fun c => (⟨#[c]⟩ : Str)).map (·.length)).sum = cs.length := by
          clear hw hD1 hl' hle
          induction cs with
          | nil => rfl
          | cons c cs ih => simp [List.sum_cons, Str.length] at ih ⊢; omega
        rw [e1, List.length_map]
        show cs.length + cs.length * 0 ≤ 16777216
        omega
      · have e := wS_of5 (join_signs cs)
        show Q (.str (Txt.join "" (cs.map fun c => (⟨#[c]⟩ : Str)))) H1
        rw [e]
        exact hQ cs H1 hw (by omega) ex
theorem codes_abc {zs : List Str} (ok : SgnOk zs) {a : Nat} (h : a ∈ codesOf zs) : a ∈ abc := by
  obtain ⟨z, hz, rfl⟩ := List.mem_map.mp h
  obtain ⟨c, hc, rfl⟩ := ok.one z hz
  exact hc
/-! ### _law_step_drawn -/
def spStep5 (K : PySem.W.Frag) : Sp := fun vs H Q _ => ∃ (p l : Addr) (u : List Nat) (zs : List Str), vs = [.ref p, .ref l, .str (wS u)] ∧ Pot H p ∧ l ≠ p ∧ SqL K H l (strsV zs) ∧ SgnOk zs ∧ u.length ≤ 2000 ∧ ∀ t (c : Ch5) H', c.Ok u → Ex p H H' → H t = none → H' t = some (.tup c.vals) → Q (.ref t) H'
abbrev N_law_step5 : List Str := ["_law_cup_here", "_law_letters", "_law_word", "_law_way", "_law_at", "_law_sign"]
theorem sc_law_step5 : FnScope N_law_step5 ["_law_cup_here", "_law_letters", "_law_word"] (defScope (top 43)) := ⟨rfl, rfl, rfl, by decide +kernel, rfl, by decide +kernel, by decide +kernel⟩
theorem c_law_step5 (A : At K mg "_law_step_drawn" (top 43)) (B : Blt mg) (c_law_toss : Cal P w K mg base 1 "_law_toss" spDip) (c_law_choice : Cal P w K mg base 2 "_law_choice" (spPick K)) : Cal P w K mg base 3 "_law_step_drawn" (spStep5 K) := by
  refine cal_of A sc_law_step5 (fun _ _ _ _ _ _ us hl => match us, hl with | [_, _, _], _ => rfl) (fun vs H Q E h => ?_) (fun _ cdv A outer s H vs Q E hr h => ?_)
  · obtain ⟨_, _, _, _, rfl, _⟩ := h; rfl
  · obtain ⟨p, l, u, zs, rfl, hp, nlp, hl, ok, lu, hQ⟩ := h
    refine ⟨_, (pss_cons (ps_set (i := 3) sc_law_step5.nd rfl (Or.inl rfl) (pe_c c_law_toss hr (by decide) (by rfl) (pa_cons (pv 0) (pa_cons pe_int pa_nil))))
  (pss_cons (ps_if (PW.pt (pw_or (pt_cmpR op_eq (pv 3) pe_int (nomark _)) (pw_or1 (pt_cmpR op_eq (pv 2) pe_str (nomark _)))))
    (pss_one (ps_ret (pe_tup (pa_cons pe_str (pa_cons (pe_c c_law_toss hr (by decide) (by rfl) (pa_cons (pv 0) (pa_cons (pe_op op_add (pe_callB call_len_str (by rfl) B.len (by decide +kernel) (pa_cons (pv 2) pa_nil)) pe_int) pa_nil))) (pa_cons (pe_c c_law_choice hr (by decide) (by rfl) (pa_cons (pv 0) (pa_cons (pv 1) pa_nil))) pa_nil))))))
    pss_nil)
  (pss_cons (ps_set (i := 4) sc_law_step5.nd rfl (Or.inr rfl) (pe_c c_law_toss hr (by decide) (by rfl) (pa_cons (pv 0) (pa_cons (pe_callB call_len_str (by rfl) B.len (by decide +kernel) (pa_cons (pv 2) pa_nil)) pa_nil))))
  (pss_cons (ps_if (pt_cmpR op_eq (pv 3) pe_int (nomark _))
    (pss_one (ps_ret (pe_tup (pa_cons pe_str (pa_cons (pv 4) pa_nil)))))
    pss_nil)
  (pss_one (ps_ret (pe_tup (pa_cons pe_str (pa_cons (pv 4) (pa_cons (pe_c c_law_choice hr (by decide) (by rfl) (pa_cons (pv 0) (pa_cons (pe_lc (own := [("_law_sign", 5)]) (g := gName 5) (by rfl) sc_law_step5.nd (pi_str pe_str) (blkOk_by (own := [("_law_sign", 5)]) (N := N_law_step5) (sc := defScope (top 43)) (by decide +kernel)) (fun _ _ _ _ _ => (pg_name (i := 5) sc_law_step5.nd rfl (Or.inl rfl))) (fun _ _ _ _ _ => pts_one (pt_cmpR op_ne (pv 5) (pe_ix ix_str (pv 2) (pv 4) (fun _ _ => rfl)) (nomark _))) (fun _ _ _ _ _ => (pv 5))) pa_nil))) pa_nil)))))))))), ?_⟩
    have big : 100000 < sizeLine := by decide
    have two : 2 ≤ sizeLine := by decide
    have three : 3 ≤ sizeLine := by decide
    have lw : (wS u).length = u.length := wS_len u
    have lz : (strsV zs).length = zs.length := by simp [strsV]
    have zpos := ok.pos
    have zle := ok.le
    obtain ⟨a1, b1, c1, hp1⟩ := id hp
    refine ⟨_, rfl, p, 3, a1, b1, c1, rfl, hp1, by decide, by decide, fun way x1 y1 z1 w0 w1 => ?_⟩
    have ex1 : Ex p H (upd H p (potO x1 y1 z1)) := Ex.turn
    generalize upd H p (potO x1 y1 z1) = H1 at ex1 ⊢
    have exl1 := ex1.seqL hl nlp
    obtain ⟨a2, b2, c2, hp2⟩ := ex1.pot
    refine ⟨_, rfl, rfl, _, rfl, ?_⟩
    by_cases hz : way = 0 ∨ u.length = 0
    · by_cases hw : way = 0
      · refine iteY (decide_eq_true (by rw [hw])) ?_
        refine ⟨_, rfl, _, rfl, wS u, rfl, by omega, _, _, rfl, rfl, ?_⟩
        rw [lw]
        refine ⟨p, _, a2, b2, c2, rfl, hp2, by omega, by omega, fun at_ x2 y2 z2 t0 t1 => ?_⟩
        have ex2 : Ex p H (upd H1 p (potO x2 y2 z2)) := ex1.trans Ex.turn
        generalize upd H1 p (potO x2 y2 z2) = H2 at ex2 ⊢
        obtain ⟨i, rfl⟩ : ∃ i : Nat, at_ = ((i : Nat) : Int) := ⟨at_.toNat, by omega⟩
        refine ⟨_, rfl, _, rfl, p, l, _, rfl, ex2.pot, nlp, ex2.seqL hl nlp, by omega, by omega, fun v x3 y3 z3 hv => ⟨three, fun t ht => ?_⟩⟩
        obtain ⟨z, hz2, rfl⟩ := List.mem_map.mp (show v ∈ zs.map V.str from hv)
        have zc : sgS (codeOf z) = z := nS_code (ok.one z hz2)
        have ex3 := ex2.trans (Ex.turn (H := H2) (p := p) (a := x3) (b := y3) (c := z3))
        exact hQ t (.put i (codeOf z)) _ ⟨by omega, codes_abc ok (code_mem ok.one hz2)⟩ (ex3.new ht) (ex3.free hp ht) (by rw [upd_same]; show _ = some (HO.tup [V.str "put", V.int ((i : Nat) : Int), V.str (sgS (codeOf z))]); rw [zc])
      · have u0 : u = [] := List.eq_nil_of_length_eq_zero (hz.resolve_left hw)
        have e0 : decide (V.str (wS u) = V.str "") = true := by
          rw [u0]
          decide
        refine iteN (decide_eq_false fun e => by injection e with e; exact hw e) ⟨_, rfl, rfl, _, rfl, iteY e0 ?_⟩
        refine ⟨_, rfl, _, rfl, wS u, rfl, by omega, _, _, rfl, rfl, ?_⟩
        rw [lw]
        refine ⟨p, _, a2, b2, c2, rfl, hp2, by omega, by omega, fun at_ x2 y2 z2 t0 t1 => ?_⟩
        have ex2 : Ex p H (upd H1 p (potO x2 y2 z2)) := ex1.trans Ex.turn
        generalize upd H1 p (potO x2 y2 z2) = H2 at ex2 ⊢
        obtain ⟨i, rfl⟩ : ∃ i : Nat, at_ = ((i : Nat) : Int) := ⟨at_.toNat, by omega⟩
        refine ⟨_, rfl, _, rfl, p, l, _, rfl, ex2.pot, nlp, ex2.seqL hl nlp, by omega, by omega, fun v x3 y3 z3 hv => ⟨three, fun t ht => ?_⟩⟩
        obtain ⟨z, hz2, rfl⟩ := List.mem_map.mp (show v ∈ zs.map V.str from hv)
        have zc : sgS (codeOf z) = z := nS_code (ok.one z hz2)
        have ex3 := ex2.trans (Ex.turn (H := H2) (p := p) (a := x3) (b := y3) (c := z3))
        exact hQ t (.put i (codeOf z)) _ ⟨by omega, codes_abc ok (code_mem ok.one hz2)⟩ (ex3.new ht) (ex3.free hp ht) (by rw [upd_same]; show _ = some (HO.tup [V.str "put", V.int ((i : Nat) : Int), V.str (sgS (codeOf z))]); rw [zc])
    · have w0' : ¬ way = 0 := fun h => hz (.inl h)
      have u0 : 0 < u.length := Nat.pos_of_ne_zero fun h => hz (.inr h)
      have we : wS u ≠ "" := fun h => by
        have := congrArg Str.length h
        rw [lw] at this
        have h0 : ("" : Str).length = 0 := rfl
        omega
      refine iteN (decide_eq_false fun e => by injection e with e; exact w0' e) ⟨_, rfl, rfl, _, rfl, iteN (decide_eq_false fun e => by injection e with e; exact we e) ?_⟩
      refine ⟨_, rfl, _, rfl, wS u, rfl, by omega, ?_⟩
      rw [lw]
      refine ⟨p, _, a2, b2, c2, rfl, hp2, by omega, by omega, fun at_ x2 y2 z2 t0 t1 => ?_⟩
      have ex2 : Ex p H (upd H1 p (potO x2 y2 z2)) := ex1.trans Ex.turn
      generalize upd H1 p (potO x2 y2 z2) = H2 at ex2 ⊢
      obtain ⟨i, rfl⟩ : ∃ i : Nat, at_ = ((i : Nat) : Int) := ⟨at_.toNat, by omega⟩
      have li : i < u.length := by omega
      have gi := Ch5.getD_of li
      obtain ⟨a3, b3, c3, hp3⟩ := id ex2.pot
      refine ⟨_, rfl, rfl, _, rfl, ite2 (fun _ => ?_) (fun _ => ?_)⟩
      · exact ⟨_, rfl, two, fun t ht => hQ t (.out i) _ li (ex2.new ht) (ex2.free hp ht) upd_same⟩
      · refine ⟨_, rfl, _, rfl, _, rfl, fun D hD => ?_⟩
        refine lc_str (by decide) (fun x => !decide (x = .str (sgS (u.getD i 0)))) (fun x => x) (fun _ _ => rfl) (fun x hx acc Q q => ?_) (fun x hx hf acc Q q => ?_) ?_
        · obtain ⟨c, hc, rfl⟩ := List.mem_map.mp (show x ∈ _ from hx)
          exact ⟨_, rfl, _, rfl, _, rfl, wS u, _, _, rfl, rfl, by omega, atI_nat gi, rfl, _, rfl, q⟩
        · exact ⟨_, rfl, q⟩
        · have nDp : D ≠ p := new_ne ex2.pot hD
          have memE : ∀ v, v ∈ ((signsOf "abcde").filter fun x => !decide (x = .str (sgS (u.getD i 0)))).map (fun x => x) ↔ ∃ c, c ∈ abc ∧ v = .str (sgS c) ∧ c ≠ u.getD i 0 := fun v => by
            rw [List.map_id', List.mem_filter]
            constructor
            · rintro ⟨h1, h2⟩
              obtain ⟨c, hc, rfl⟩ := List.mem_map.mp (show v ∈ _ from h1)
              refine ⟨c, hc, rfl, fun e => ?_⟩
              rw [← e] at h2
              simp [sgS] at h2
            · rintro ⟨c, hc, rfl, ne⟩
              refine ⟨List.mem_map.mpr ⟨c, hc, rfl⟩, ?_⟩
              have : V.str (sgS c) ≠ V.str (sgS (u.getD i 0)) := fun e => by
                injection e with e
                exact ne (congrArg codeOf e)
              rw [decide_eq_false this]
              rfl
          have pos : 0 < (((signsOf "abcde").filter fun x => !decide (x = .str (sgS (u.getD i 0)))).map (fun x => x)).length := by
            obtain ⟨c, hc, ne⟩ : ∃ c, c ∈ abc ∧ c ≠ u.getD i 0 := by
              have habc : abc = [97, 98, 99, 100, 101] := by decide +kernel
              by_cases e : u.getD i 0 = 97
              · exact ⟨98, by rw [habc]; decide, by rw [e]; decide⟩
              · exact ⟨97, by rw [habc]; decide, fun h => e h.symm⟩
            exact List.length_pos_of_mem ((memE _).mpr ⟨c, hc, rfl, ne⟩)
          have le5 : (((signsOf "abcde").filter fun x => !decide (x = .str (sgS (u.getD i 0)))).map (fun x => x)).length ≤ 5 := by
            rw [List.length_map]
            exact Nat.le_trans (List.length_filter_le _ _) (by decide +kernel)
          have exD := ex2.new (o := .lst (((signsOf "abcde").filter fun x => !decide (x = .str (sgS (u.getD i 0)))).map (fun x => x))) hD
          refine ⟨p, D, _, rfl, exD.pot, nDp, SqL.of upd_same, pos, by omega, fun v x3 y3 z3 hv => ⟨three, fun t ht => ?_⟩⟩
          obtain ⟨c, hc, rfl, ne⟩ := (memE v).mp hv
          have ex3 := exD.trans (Ex.turn (p := p) (a := x3) (b := y3) (c := z3))
          refine hQ t (.swap i c) _ ⟨li, hc, fun e => ?_⟩ (ex3.new ht) (ex3.free hp ht) upd_same
          rw [gi] at e
          exact ne (Option.some.inj e).symm
/-! ### _law_steps_drawn -/
def spSteps5 (K : PySem.W.Frag) : Sp := fun vs H Q _ => ∃ (p l : Addr) (u : List Nat) (zs : List Str) (m : Int), vs = [.ref p, .ref l, .str (wS u), .int m] ∧ Pot H p ∧ l ≠ p ∧ SqL K H l (strsV zs) ∧ SgnOk zs ∧ u.length ≤ 950 ∧ 0 ≤ m ∧ m ≤ 20 ∧ ∀ F (cs : List Ch5) H', okRow u cs → (cs.length : Int) ≤ m → Ex p H H' → H F = none → LsT K H' F (cs.map Ch5.dat) → Q (.ref F) H'
abbrev N_law_steps5 : List Str := ["_law_cup_here", "_law_letters", "_law_word", "_law_most", "_law_found", "_law_now", "_law_turn", "_law_change"]
theorem sc_law_steps5 : FnScope N_law_steps5 ["_law_cup_here", "_law_letters", "_law_word", "_law_most"] (defScope (top 45)) := ⟨rfl, rfl, rfl, by decide +kernel, rfl, by decide +kernel, by decide +kernel⟩
theorem c_law_steps5 (A : At K mg "_law_steps_drawn" (top 45)) (B : Blt mg) (c_law_toss : Cal P w K mg base 1 "_law_toss" spDip) (c_law_step5 : Cal P w K mg base 3 "_law_step_drawn" (spStep5 K)) (c_law_made5 : Cal P w K mg base 1 "_law_made" (spMade5 K)) : Cal P w K mg base 4 "_law_steps_drawn" (spSteps5 K) := by
  refine cal_of A sc_law_steps5 (fun _ _ _ _ _ _ us hl => match us, hl with | [_, _, _, _], _ => rfl) (fun vs H Q E h => ?_) (fun _ cdv A outer s H vs Q E hr h => ?_)
  · obtain ⟨_, _, _, _, _, rfl, _⟩ := h; rfl
  · obtain ⟨p, l, u, zs, m, rfl, hp, nlp, hl, ok, lu, m0, m1, hQ⟩ := h
    refine ⟨_, (pss_cons (ps_par (i := 4) (j := 5) (by rfl) sc_law_steps5.nd rfl rfl (by decide) rfl rfl (pa_cons (pe_lst pa_nil) (pa_cons (pv 2) pa_nil)) (by rfl))
  (pss_cons (ps_for PassesOwn.never rfl (pi_range1 (by rfl) B.range (pa_cons (pe_c c_law_toss hr (by decide) (by rfl) (pa_cons (pv 0) (pa_cons (pe_op op_add (pv 3) pe_int) pa_nil))) pa_nil)) (pg_name (i := 6) sc_law_steps5.nd rfl (Or.inl rfl))
    (pss_cons (ps_set (i := 7) sc_law_steps5.nd rfl (Or.inl rfl) (pe_c c_law_step5 hr (by decide) (by rfl) (pa_cons (pv 0) (pa_cons (pv 1) (pa_cons (pv 5) pa_nil)))))
    (pss_cons (ps_expr (pe_append K rfl (pv 4) (pv 7)))
    (pss_one (ps_set (i := 5) sc_law_steps5.nd rfl (Or.inl rfl) (pe_c c_law_made5 hr (by decide) (by rfl) (pa_cons (pv 5) (pa_cons (pv 7) pa_nil))))))))
  (pss_one (ps_ret (pv 4))))), ?_⟩
    have big : 100000 < sizeLine := by decide
    refine ⟨Nat.zero_le _, fun F hF => ⟨_, rfl, _, _, rfl, ?_⟩⟩
    have nFp : F ≠ p := new_ne hp hF
    have ex0 : Ex p H (upd H F (.lst [])) := (Ex.refl hp).new hF
    have hF0 : upd H F (.lst []) F = some (.lst []) := upd_same
    generalize upd H F (.lst []) = H0 at ex0 hF0 ⊢
    obtain ⟨a1, b1, c1, hp1⟩ := id ex0.pot
    refine ⟨_, rfl, _, rfl, _, _, rfl, rfl, p, _, a1, b1, c1, rfl, hp1, by omega, by omega, fun r x1 y1 z1 r0 r1 => ?_⟩
    have ex1 : Ex p H (upd H0 p (potO x1 y1 z1)) := ex0.trans Ex.turn
    have hF1 : upd H0 p (potO x1 y1 z1) F = some (.lst []) := by rw [upd_ne nFp]; exact hF0
    generalize upd H0 p (potO x1 y1 z1) = H1 at ex1 hF1 ⊢
    refine ⟨_, rfl, by omega, by omega, for_it (walk_range (lo := 0)) (fun i σ H' => Ex p H H' ∧ (∃ o6 o7, ∃ cs : List Ch5, σ = [some (.ref p), some (.ref l), some (.str (wS u)), some (.int m), some (.ref F), some (.str (wS (lastW u cs))), o6, o7] ∧ okRow u cs ∧ cs.length = i ∧ LsT K H' F (cs.map Ch5.dat))) ⟨ex1, _, _, [], rfl, trivial, rfl, [], hF1, .nil⟩ (fun _ _ _ _ _ => trivial) (fun i y σ H2 H2' hi e yy => ?_) (fun σ H2 e => ?_)⟩
    · obtain ⟨rfl, rfl⟩ := yy
      obtain ⟨ex2, o6, o7, cs, rfl, okc, lc, ls⟩ := e
      have hi20 : i < 20 := by
        have : i < r.toNat := hi
        omega
      have lw := lastW_len okc
      refine ⟨_, rfl, _, rfl, _, rfl, p, l, lastW u cs, zs, rfl, ex2.pot, nlp, ex2.seqL hl nlp, ok, by omega, fun t c H3 okc3 ex3 ht hv => ?_⟩
      obtain ⟨vs, hF2, hds⟩ := ls.ex
      have hF3 := ex3.keep _ _ nFp hF2
      have hd3 := dpa_same (tp_ex ex2.pot ex3) _ _ hds
      have hc3 : Dp K (Tp H3) (.ref t) c.dat := vals_dp (.inl (.inl (tp_of hv rfl)))
      have lv := dpa_len hds
      rw [List.length_map] at lv
      refine ⟨_, rfl, .inl ⟨rfl, _, SqL.of hF3⟩, _, rfl, F, vs, _, rfl, rfl, hF3, by omega, ?_⟩
      have ls4 := LsT.app hF3 hd3 hc3
      have hc4 : Dp K (upd H3 F (.lst (vs ++ [.ref t]))) (.ref t) c.dat := dp_same tp_le _ _ (dp_same (tp_put hF3) _ _ hc3)
      have ex4 : Ex p H (upd H3 F (.lst (vs ++ [.ref t]))) := (ex2.trans ex3).put hF nFp
      generalize upd H3 F (.lst (vs ++ [.ref t])) = H4 at ls4 ex4 hc4 ⊢
      refine ⟨_, rfl, _, rfl, lastW u cs, .ref t, c.dat, rfl, by omega, hc4, (sb_dat okc3 (by omega)).mono (by decide) (by decide), fun c' hc' e H5 e5 => ?_, fun no => absurd rfl (no c okc3)⟩
      cases Ch5.dat_inj e
      refine ⟨ex4.trans (ex_same ex4.pot e5), _, _, cs ++ [c], by rw [lastW_app]; rfl, okRow_app.mpr ⟨okc, okc3, trivial⟩, by rw [List.length_append, lc]; rfl, ?_⟩
      rw [List.map_append]
      exact ls4.same e5
    · obtain ⟨ex2, o6, o7, cs, rfl, okc, lc, ls⟩ := e
      exact ⟨_, rfl, hQ F cs H2 okc (by omega) ex2 hF ls⟩
end
end MN
/-! _law_strange: a change that cannot be made, or one that can -/
namespace MN
open PySem PySem.Spec PyProof.Rows L2 MNE
structure StU (p : Addr) (u : List Nat) (σ : L2.St) : Prop where
  s0 : σ[0]? = some (some (.ref p))
  s1 : σ[1]? = some (some (.str (wS u)))
  s2 : σ[2]? = some (some (.int ((u.length : Nat) : Int)))
  lu : u.length ≤ 2000
  su : ∀ a ∈ u, a ∈ abc
theorem op_mulB {X : Cx} : OpR X (binaryOp .Mult) (rI IntMulOk fun i j => .int (i * j)) := opI fun _ _ _ _ _ _ _ hc q => mul_int q hc
/-- some data of small depth and weight; its objects are new -/
def tAny (K : PySem.W.Frag) (p : Addr) (u : List Nat) (n w : Nat) : TE := fun σ H Q => StU p u σ ∧ Pot H p ∧ ∀ v d H', Same H H' → Pot H' p → Dp K (Gb p H') v d → Sb n w d → Q v H'
abbrev tAny0 (K : PySem.W.Frag) (p : Addr) (u : List Nat) : TE := tAny K p u 0 400
abbrev tAny1 (K : PySem.W.Frag) (p : Addr) (u : List Nat) : TE := tAny K p u 1 1203
abbrev tAny2 (K : PySem.W.Frag) (p : Addr) (u : List Nat) : TE := tAny K p u 2 3612
def tAnyL (K : PySem.W.Frag) (p : Addr) (u : List Nat) (n w : Nat) : Nat → TA
  | 0 => tNil
  | m + 1 => tCons (tAny K p u n w) (tAnyL K p u n w m)
theorem gb_same {p : Addr} {H H' : Hp} (e : Same H H') : Same (Gb p H) (Gb p H') := gnd_gb ((gb_gnd (p := p) (H := H)).same_ e)
theorem gb_ex {p : Addr} {H H' : Hp} (e : Ex p H H') : Same (Gb p H) (Gb p H') := gnd_gb ((gb_gnd (p := p) (H := H)).ex e)
theorem sb_none : Sb 0 400 .none := Sb.none.mono (Nat.le_refl _) (by decide)
theorem sb_bool (b : Bool) : Sb 0 400 (.bool b) := (Sb.bool b).mono (Nat.le_refl _) (by decide)
theorem sb_int {k : Int} (h0 : 0 ≤ k) (h1 : k ≤ 100000) : Sb 0 400 (.int k) := (Sb.int h0 h1).mono (Nat.le_refl _) (by decide)
theorem sb_neg : Sb 0 400 (.int (-1)) := ⟨by rw [PyData.depth]; exact Nat.le_refl _, by decide +kernel, by decide +kernel, rfl, rfl, by decide +kernel⟩
theorem sb_big : Sb 0 400 (.int (10 ^ 60 * 10 ^ 39)) := ⟨by rw [PyData.depth]; exact Nat.le_refl _, by decide +kernel, by decide +kernel, rfl, rfl, by decide +kernel⟩
section
variable {K : PySem.W.Frag} {p : Addr} {u : List Nat} {n w m : Nat}
theorem any_c {v : V} {d : PyData} (hd : ∀ H', Dp K H' v d) (hs : Sb n w d) : ∀ σ H Q, tAny K p u n w σ H Q → tC v σ H Q := fun _ H _ ⟨_, hp, q⟩ => q v d H (Same.refl _) hp (hd _) hs
theorem any_mono {n' w' : Nat} (hn : n ≤ n') (hw : w ≤ w') : ∀ σ H Q, tAny K p u n' w' σ H Q → tAny K p u n w σ H Q := fun _ _ _ ⟨s, hp, q⟩ => ⟨s, hp, fun v d H' e hp' hd hs => q v d H' e hp' hd (hs.mono hn hw)⟩
theorem any_size : ∀ σ H Q, tAny0 K p u σ H Q → tVar 2 σ H Q := fun σ H Q ⟨s, hp, q⟩ => ⟨_, s.s2, q _ _ H (Same.refl _) hp (.int _) (sb_int (by omega) (by have := s.lu; omega))⟩
theorem any_neg : ∀ σ H Q, tAny0 K p u σ H Q → tUn (rU fun i => V.int (-i)) (tC (.int 1)) σ H Q := fun σ H Q ⟨s, hp, q⟩ => ⟨_, rfl, q _ _ H (Same.refl _) hp (.int _) sb_neg⟩
theorem any_add : ∀ σ H Q, tAny0 K p u σ H Q → tOp (rI0 fun i j => V.int (i + j)) (tVar 2) (tC (.int 1)) σ H Q := fun σ H Q ⟨s, hp, q⟩ => ⟨_, s.s2, _, _, rfl, rfl, q _ _ H (Same.refl _) hp (.int _) (sb_int (by omega) (by have := s.lu; omega))⟩
theorem any_sub : ∀ σ H Q, tAny0 K p u σ H Q → tOp (rI0 fun i j => V.int (i - j)) (tVar 2) (tC (.int 1)) σ H Q := fun σ H Q ⟨s, hp, q⟩ => ⟨_, s.s2, _, _, rfl, rfl, q _ _ H (Same.refl _) hp (.int _) (by
  by_cases h : u.length = 0
  · rw [h]
    exact sb_neg
  · exact sb_int (by omega) (by have := s.lu; omega))⟩
theorem any_cut : ∀ σ H Q, tAny0 K p u σ H Q → tSl rSlS (tVar 1) tNoPart (tPart (tC (.int 1))) σ H Q := by
  intro σ H Q h
  obtain ⟨s, hp, q⟩ := h
  have lw : (wS u).length = u.length := wS_len u
  have big : 100000 < sizeLine := by decide
  have lu := s.lu
  refine ⟨_, s.s1, _, rfl, wS u, rfl, by omega, ?_⟩
  have e : cutS (wS u) none (some 1) = wS (u.take 1) := by
    by_cases h : 1 ≤ u.length
    · exact cutTo5 u h
    · have : u = [] := List.eq_nil_of_length_eq_zero (by omega)
      subst this
      decide
  rw [e]
  refine q _ (.str _) H (Same.refl _) hp (.str _) ?_
  have := sb_word (u := u.take 1) (fun a ha => s.su a (List.mem_of_mem_take ha)) (by rw [List.length_take]; omega)
  have hw : (PyData.str (wS (u.take 1))).weight ≤ 400 := by
    rw [PyData.weight]
    show (wS (u.take 1)).length ≤ 400
    rw [wS_len, List.length_take]
    omega
  exact { this with wt := hw }
theorem any_big : ∀ σ H Q, tAny0 K p u σ H Q → tOp (rI IntMulOk fun i j => V.int (i * j)) (tOp (rI (fun i j => 0 ≤ j ∧ (Builtin.Int.intBits i : Int) * j ≤ 2 ^ 27) fun i j => V.int (i ^ j.toNat)) (tC (.int 10)) (tC (.int 60))) (tOp (rI (fun i j => 0 ≤ j ∧ (Builtin.Int.intBits i : Int) * j ≤ 2 ^ 27) fun i j => V.int (i ^ j.toNat)) (tC (.int 10)) (tC (.int 39))) σ H Q := by
  intro σ H Q h
  obtain ⟨s, hp, q⟩ := h
  refine ⟨_, _, rfl, rfl, ⟨by decide, by decide +kernel⟩, _, _, rfl, rfl, ⟨by decide, by decide +kernel⟩, _, _, rfl, rfl, ?_, ?_⟩
  · exact IntMulOk.of_le (m := 200) (n := 130) (by decide +kernel) (by decide +kernel) (by decide)
  · exact q _ (.int _) H (Same.refl _) hp (.int _) sb_big
theorem anyL_run : ∀ (m : Nat) (σ : L2.St) (H : Hp) (R : List V → Hp → Prop), StU p u σ → Pot H p → (∀ vs ds H', Same H H' → Pot H' p → DpAll K (Gb p H') vs ds → vs.length = m → (∀ d ∈ ds, Sb n w d) → R vs H') → tAnyL K p u n w m σ H R
  | 0, σ, H, R, s, hp, q => q [] [] H (Same.refl _) hp .nil rfl (fun _ h => nomatch h)
  | m + 1, σ, H, R, s, hp, q => ⟨s, hp, fun v d H1 e1 hp1 hd hs => anyL_run m σ H1 (fun xs H2 => R (v :: xs) H2) s hp1 fun vs ds H2 e2 hp2 hds hl hss => q (v :: vs) (d :: ds) H2 (e1.trans e2) hp2 (.cons (dp_same (gb_same e2) _ _ hd) hds) (by rw [List.length_cons, hl]) fun d' hd' => by
      rcases List.mem_cons.mp hd' with rfl | h
      · exact hs
      · exact hss d' h⟩
theorem any_tup {w' : Nat} (hm : m ≤ sizeLine) (hw : m * (w + 1) ≤ w') : ∀ σ H Q, tAny K p u (n + 1) w' σ H Q → tTup (tAnyL K p u n w m) σ H Q := by
  intro σ H Q h
  obtain ⟨s, hp, q⟩ := h
  refine anyL_run m σ H _ s hp fun vs ds H1 e1 hp1 hds hl hss => ⟨by rw [hl]; exact hm, fun t ht => ?_⟩
  refine q _ (.tuple ds) _ (e1.trans (same_new ht)) (pot_same hp1 (same_new ht)) (.tup (.inl (.inl (gb_keep _ _ (new_ne hp1 ht) (fun _ z => nomatch z) upd_same))) (dpa_same (gb_same (same_new ht)) _ _ hds)) ((Sb.tuple hss).mono (Nat.le_refl _) ?_)
  rw [← dpa_len hds, hl]
  exact hw
theorem any_lst {w' : Nat} (hm : m ≤ sizeLine) (hw : m * (w + 1) ≤ w') : ∀ σ H Q, tAny K p u (n + 1) w' σ H Q → tLst (tAnyL K p u n w m) σ H Q := by
  intro σ H Q h
  obtain ⟨s, hp, q⟩ := h
  refine anyL_run m σ H _ s hp fun vs ds H1 e1 hp1 hds hl hss => ⟨by rw [hl]; exact hm, fun t ht => ?_⟩
  refine q _ (.list ds) _ (e1.trans (same_new ht)) (pot_same hp1 (same_new ht)) (.lst (SqL.of (gb_keep _ _ (new_ne hp1 ht) (fun _ z => nomatch z) upd_same)) (dpa_same (gb_same (same_new ht)) _ _ hds)) ((Sb.list hss).mono (Nat.le_refl _) ?_)
  rw [← dpa_len hds, hl]
  exact hw
theorem any_lst11 : ∀ σ H Q, tAny1 K p u σ H Q → tLst (tCons (tAny0 K p u) tNil) σ H Q := any_lst (n := 0) (w := 400) (w' := 1203) (m := 1) (by decide) (by decide)
theorem any_lst12 : ∀ σ H Q, tAny1 K p u σ H Q → tLst (tCons (tAny0 K p u) (tCons (tAny0 K p u) tNil)) σ H Q := any_lst (n := 0) (w := 400) (w' := 1203) (m := 2) (by decide) (by decide)
theorem any_lst13 : ∀ σ H Q, tAny1 K p u σ H Q → tLst (tCons (tAny0 K p u) (tCons (tAny0 K p u) (tCons (tAny0 K p u) tNil))) σ H Q := any_lst (n := 0) (w := 400) (w' := 1203) (m := 3) (by decide) (by decide)
theorem any_tup10 : ∀ σ H Q, tAny1 K p u σ H Q → tTup tNil σ H Q := any_tup (n := 0) (w := 400) (w' := 1203) (m := 0) (by decide) (by decide)
theorem any_tup11 : ∀ σ H Q, tAny1 K p u σ H Q → tTup (tCons (tAny0 K p u) tNil) σ H Q := any_tup (n := 0) (w := 400) (w' := 1203) (m := 1) (by decide) (by decide)
theorem any_tup12 : ∀ σ H Q, tAny1 K p u σ H Q → tTup (tCons (tAny0 K p u) (tCons (tAny0 K p u) tNil)) σ H Q := any_tup (n := 0) (w := 400) (w' := 1203) (m := 2) (by decide) (by decide)
theorem any_tup13 : ∀ σ H Q, tAny1 K p u σ H Q → tTup (tCons (tAny0 K p u) (tCons (tAny0 K p u) (tCons (tAny0 K p u) tNil))) σ H Q := any_tup (n := 0) (w := 400) (w' := 1203) (m := 3) (by decide) (by decide)
theorem any_tup21 : ∀ σ H Q, tAny2 K p u σ H Q → tTup (tCons (tAny1 K p u) tNil) σ H Q := any_tup (n := 1) (w := 1203) (w' := 3612) (m := 1) (by decide) (by decide)
theorem any_tup23 : ∀ σ H Q, tAny2 K p u σ H Q → tTup (tCons (tAny1 K p u) (tCons (tAny1 K p u) (tCons (tAny1 K p u) tNil))) σ H Q := any_tup (n := 1) (w := 1203) (w' := 3612) (m := 3) (by decide) (by decide)
/-- a list of such data -/
def tAnyLst (K : PySem.W.Frag) (p : Addr) (u : List Nat) (m : Nat) : TE := fun σ H Q => StU p u σ ∧ Pot H p ∧ ∀ L vs ds H', Same H H' → Pot H' p → L ≠ p → H' L = some (.lst vs) → DpAll K (Gb p H') vs ds → vs.length = m → (∀ d ∈ ds, Sb 2 3612 d) → Q (.ref L) H'
theorem anyLst_imp (hm : m ≤ sizeLine) : ∀ σ H Q, tAnyLst K p u m σ H Q → tLst (tAnyL K p u 2 3612 m) σ H Q := by
  intro σ H Q h
  obtain ⟨s, hp, q⟩ := h
  refine anyL_run m σ H _ s hp fun vs ds H1 e1 hp1 hds hl hss => ⟨by rw [hl]; exact hm, fun L hL => ?_⟩
  have sm := same_new (o := .lst vs) hL
  exact q L vs ds _ (e1.trans sm) (pot_same hp1 sm) (new_ne hp1 hL) upd_same (dpa_same (gb_same sm) _ _ hds) hl hss
end
section
variable {P : Program} {w : World} {K : PySem.W.Frag} {mg : Str → Option Value} {base : Heap}
def spStrange5 (K : PySem.W.Frag) : Sp := fun vs H Q _ => ∃ (p : Addr) (u : List Nat), vs = [.ref p, .str (wS u)] ∧ Pot H p ∧ (∀ a ∈ u, a ∈ abc) ∧ u.length ≤ 2000 ∧ ∀ v d H', Ex p H H' → Dp K (Gb p H') v d → Sb 2 3612 d → Q v H'
abbrev N_law_strange5 : List Str := ["_law_cup_here", "_law_word", "_law_size", "_law_some"]
theorem sc_law_strange5 : FnScope N_law_strange5 ["_law_cup_here", "_law_word"] (defScope (top 51)) := ⟨rfl, rfl, rfl, by decide +kernel, rfl, by decide +kernel, by decide +kernel⟩
theorem c_law_strange5 (A : At K mg "_law_strange" (top 51)) (B : Blt mg) (c_law_choice : Cal P w K mg base 2 "_law_choice" (spPick K)) : Cal P w K mg base 3 "_law_strange" (spStrange5 K) := by
  refine cal_of A sc_law_strange5 (fun _ _ _ _ _ _ us hl => match us, hl with | [_, _], _ => rfl) (fun vs H Q E h => ?_) (fun _ cdv A outer s H vs Q E hr h => ?_)
  · obtain ⟨_, _, rfl, _⟩ := h; rfl
  · obtain ⟨p, u, rfl, hp, su, lu, hQ⟩ := h
    refine ⟨_, (pss_cons (ps_set (i := 2) sc_law_strange5.nd rfl (Or.inl rfl) (pe_callB call_len_str (by rfl) B.len (by decide +kernel) (pa_cons (pv 1) pa_nil)))
      (pss_cons (ps_set (i := 3) sc_law_strange5.nd rfl (Or.inl rfl) (PE.imp5 (t' := tAnyLst K p u 5) (pe_lst (pa_cons (PE.imp5 (t' := tAny2 K p u) (PE.imp5 (t' := tAny1 K p u) (pe_tup (pa_cons (PE.imp5 (t' := tAny0 K p u) (PE.imp5 pe_str (any_c (fun _ => .str _) (Sb.str (by decide) (by decide +kernel)))) (fun _ _ _ h => h)) (pa_cons (PE.imp5 (t' := tAny0 K p u) (PE.imp5 (pe_op op_add (pv 2) pe_int) any_add) (fun _ _ _ h => h)) (pa_cons (PE.imp5 (t' := tAny0 K p u) (PE.imp5 pe_str (any_c (fun _ => .str _) (Sb.str (by decide) (by decide +kernel)))) (fun _ _ _ h => h)) pa_nil)))) any_tup13) (any_mono (by decide) (by decide))) (pa_cons (PE.imp5 (t' := tAny2 K p u) (PE.imp5 (t' := tAny1 K p u) (pe_tup (pa_cons (PE.imp5 (t' := tAny0 K p u) (PE.imp5 pe_str (any_c (fun _ => .str _) (Sb.str (by decide) (by decide +kernel)))) (fun _ _ _ h => h)) (pa_cons (PE.imp5 (t' := tAny0 K p u) (PE.imp5 (pv 2) any_size) (fun _ _ _ h => h)) pa_nil))) any_tup12) (any_mono (by decide) (by decide))) (pa_cons (PE.imp5 (t' := tAny2 K p u) (PE.imp5 (t' := tAny1 K p u) (pe_tup (pa_cons (PE.imp5 (t' := tAny0 K p u) (PE.imp5 pe_str (any_c (fun _ => .str _) (Sb.str (by decide) (by decide +kernel)))) (fun _ _ _ h => h)) (pa_cons (PE.imp5 (t' := tAny0 K p u) (PE.imp5 pe_int (any_c (fun _ => .int _) (sb_int (by decide) (by decide)))) (fun _ _ _ h => h)) (pa_cons (PE.imp5 (t' := tAny0 K p u) (PE.imp5 (pe_slice sl_str (pv 1) po_none (po_some pe_int)) any_cut) (fun _ _ _ h => h)) pa_nil)))) any_tup13) (any_mono (by decide) (by decide))) (pa_cons (PE.imp5 (t' := tAny2 K p u) (PE.imp5 (t' := tAny1 K p u) (pe_tup (pa_cons (PE.imp5 (t' := tAny0 K p u) (PE.imp5 pe_str (any_c (fun _ => .str _) (Sb.str (by decide) (by decide +kernel)))) (fun _ _ _ h => h)) (pa_cons (PE.imp5 (t' := tAny0 K p u) (PE.imp5 (pe_un un_neg pe_int) any_neg) (fun _ _ _ h => h)) (pa_cons (PE.imp5 (t' := tAny0 K p u) (PE.imp5 pe_str (any_c (fun _ => .str _) (Sb.str (by decide) (by decide +kernel)))) (fun _ _ _ h => h)) pa_nil)))) any_tup13) (any_mono (by decide) (by decide))) (pa_cons (PE.imp5 (t' := tAny2 K p u) (PE.imp5 (t' := tAny1 K p u) (pe_tup (pa_cons (PE.imp5 (t' := tAny0 K p u) (PE.imp5 pe_str (any_c (fun _ => .str _) (Sb.str (by decide) (by decide +kernel)))) (fun _ _ _ h => h)) (pa_cons (PE.imp5 (t' := tAny0 K p u) (PE.imp5 pe_bl (any_c (fun _ => .bl _) (sb_bool _))) (fun _ _ _ h => h)) (pa_cons (PE.imp5 (t' := tAny0 K p u) (PE.imp5 pe_str (any_c (fun _ => .str _) (Sb.str (by decide) (by decide +kernel)))) (fun _ _ _ h => h)) pa_nil)))) any_tup13) (any_mono (by decide) (by decide))) pa_nil)))))) (anyLst_imp (m := 5) (by decide))))
      (pss_cons (ps_set (i := 3) sc_law_strange5.nd rfl (Or.inl rfl) (pe_op op_cat (pv 3) (PE.imp5 (t' := tAnyLst K p u 7) (pe_lst (pa_cons (PE.imp5 (t' := tAny2 K p u) (PE.imp5 (t' := tAny1 K p u) (pe_tup (pa_cons (PE.imp5 (t' := tAny0 K p u) (PE.imp5 pe_str (any_c (fun _ => .str _) (Sb.str (by decide) (by decide +kernel)))) (fun _ _ _ h => h)) (pa_cons (PE.imp5 (t' := tAny0 K p u) (PE.imp5 pe_int (any_c (fun _ => .int _) (sb_int (by decide) (by decide)))) (fun _ _ _ h => h)) (pa_cons (PE.imp5 (t' := tAny0 K p u) (PE.imp5 pe_str (any_c (fun _ => .str _) (Sb.str (by decide) (by decide +kernel)))) (fun _ _ _ h => h)) pa_nil)))) any_tup13) (any_mono (by decide) (by decide))) (pa_cons (PE.imp5 (t' := tAny2 K p u) (PE.imp5 (t' := tAny1 K p u) (pe_tup (pa_cons (PE.imp5 (t' := tAny0 K p u) (PE.imp5 pe_str (any_c (fun _ => .str _) (Sb.str (by decide) (by decide +kernel)))) (fun _ _ _ h => h)) (pa_cons (PE.imp5 (t' := tAny0 K p u) (PE.imp5 pe_int (any_c (fun _ => .int _) (sb_int (by decide) (by decide)))) (fun _ _ _ h => h)) (pa_cons (PE.imp5 (t' := tAny0 K p u) (PE.imp5 pe_str (any_c (fun _ => .str _) (Sb.str (by decide) (by decide +kernel)))) (fun _ _ _ h => h)) pa_nil)))) any_tup13) (any_mono (by decide) (by decide))) (pa_cons (PE.imp5 (t' := tAny2 K p u) (PE.imp5 (t' := tAny1 K p u) (pe_tup (pa_cons (PE.imp5 (t' := tAny0 K p u) (PE.imp5 pe_str (any_c (fun _ => .str _) (Sb.str (by decide) (by decide +kernel)))) (fun _ _ _ h => h)) (pa_cons (PE.imp5 (t' := tAny0 K p u) (PE.imp5 pe_int (any_c (fun _ => .int _) (sb_int (by decide) (by decide)))) (fun _ _ _ h => h)) (pa_cons (PE.imp5 (t' := tAny0 K p u) (PE.imp5 pe_str (any_c (fun _ => .str _) (Sb.str (by decide) (by decide +kernel)))) (fun _ _ _ h => h)) pa_nil)))) any_tup13) (any_mono (by decide) (by decide))) (pa_cons (PE.imp5 (t' := tAny2 K p u) (PE.imp5 (t' := tAny1 K p u) (pe_tup (pa_cons (PE.imp5 (t' := tAny0 K p u) (PE.imp5 pe_str (any_c (fun _ => .str _) (Sb.str (by decide) (by decide +kernel)))) (fun _ _ _ h => h)) (pa_cons (PE.imp5 (t' := tAny0 K p u) (PE.imp5 pe_int (any_c (fun _ => .int _) (sb_int (by decide) (by decide)))) (fun _ _ _ h => h)) (pa_cons (PE.imp5 (t' := tAny0 K p u) (PE.imp5 pe_str (any_c (fun _ => .str _) (Sb.str (by decide) (by decide +kernel)))) (fun _ _ _ h => h)) pa_nil)))) any_tup13) (any_mono (by decide) (by decide))) (pa_cons (PE.imp5 (t' := tAny2 K p u) (PE.imp5 (t' := tAny1 K p u) (pe_tup (pa_cons (PE.imp5 (t' := tAny0 K p u) (PE.imp5 pe_str (any_c (fun _ => .str _) (Sb.str (by decide) (by decide +kernel)))) (fun _ _ _ h => h)) pa_nil)) any_tup11) (any_mono (by decide) (by decide))) (pa_cons (PE.imp5 (t' := tAny2 K p u) (PE.imp5 (t' := tAny1 K p u) (pe_tup (pa_cons (PE.imp5 (t' := tAny0 K p u) (PE.imp5 pe_str (any_c (fun _ => .str _) (Sb.str (by decide) (by decide +kernel)))) (fun _ _ _ h => h)) (pa_cons (PE.imp5 (t' := tAny0 K p u) (PE.imp5 pe_int (any_c (fun _ => .int _) (sb_int (by decide) (by decide)))) (fun _ _ _ h => h)) pa_nil))) any_tup12) (any_mono (by decide) (by decide))) (pa_cons (PE.imp5 (t' := tAny2 K p u) (PE.imp5 (t' := tAny1 K p u) (pe_tup pa_nil) any_tup10) (any_mono (by decide) (by decide))) pa_nil)))))))) (anyLst_imp (m := 7) (by decide)))))
      (pss_cons (ps_set (i := 3) sc_law_strange5.nd rfl (Or.inl rfl) (pe_op op_cat (pv 3) (PE.imp5 (t' := tAnyLst K p u 7) (pe_lst (pa_cons (PE.imp5 (t' := tAny2 K p u) (PE.imp5 (t' := tAny1 K p u) (pe_tup (pa_cons (PE.imp5 (t' := tAny0 K p u) (PE.imp5 pe_str (any_c (fun _ => .str _) (Sb.str (by decide) (by decide +kernel)))) (fun _ _ _ h => h)) (pa_cons (PE.imp5 (t' := tAny0 K p u) (PE.imp5 pe_int (any_c (fun _ => .int _) (sb_int (by decide) (by decide)))) (fun _ _ _ h => h)) (pa_cons (PE.imp5 (t' := tAny0 K p u) (PE.imp5 pe_str (any_c (fun _ => .str _) (Sb.str (by decide) (by decide +kernel)))) (fun _ _ _ h => h)) pa_nil)))) any_tup13) (any_mono (by decide) (by decide))) (pa_cons (PE.imp5 (t' := tAny2 K p u) (PE.imp5 (t' := tAny1 K p u) (pe_lst (pa_cons (PE.imp5 (t' := tAny0 K p u) (PE.imp5 pe_str (any_c (fun _ => .str _) (Sb.str (by decide) (by decide +kernel)))) (fun _ _ _ h => h)) (pa_cons (PE.imp5 (t' := tAny0 K p u) (PE.imp5 pe_int (any_c (fun _ => .int _) (sb_int (by decide) (by decide)))) (fun _ _ _ h => h)) pa_nil))) any_lst12) (any_mono (by decide) (by decide))) (pa_cons (PE.imp5 (t' := tAny2 K p u) (PE.imp5 (t' := tAny0 K p u) (PE.imp5 pe_non (any_c (fun _ => .non) sb_none)) (fun _ _ _ h => h)) (any_mono (by decide) (by decide))) (pa_cons (PE.imp5 (t' := tAny2 K p u) (PE.imp5 (t' := tAny0 K p u) (PE.imp5 pe_str (any_c (fun _ => .str _) (Sb.str (by decide) (by decide +kernel)))) (fun _ _ _ h => h)) (any_mono (by decide) (by decide))) (pa_cons (PE.imp5 (t' := tAny2 K p u) (PE.imp5 (t' := tAny1 K p u) (pe_tup (pa_cons (PE.imp5 (t' := tAny0 K p u) (PE.imp5 pe_str (any_c (fun _ => .str _) (Sb.str (by decide) (by decide +kernel)))) (fun _ _ _ h => h)) (pa_cons (PE.imp5 (t' := tAny0 K p u) (PE.imp5 pe_non (any_c (fun _ => .non) sb_none)) (fun _ _ _ h => h)) (pa_cons (PE.imp5 (t' := tAny0 K p u) (PE.imp5 pe_str (any_c (fun _ => .str _) (Sb.str (by decide) (by decide +kernel)))) (fun _ _ _ h => h)) pa_nil)))) any_tup13) (any_mono (by decide) (by decide))) (pa_cons (PE.imp5 (t' := tAny2 K p u) (PE.imp5 (t' := tAny1 K p u) (pe_tup (pa_cons (PE.imp5 (t' := tAny0 K p u) (PE.imp5 pe_str (any_c (fun _ => .str _) (Sb.str (by decide) (by decide +kernel)))) (fun _ _ _ h => h)) (pa_cons (PE.imp5 (t' := tAny0 K p u) (PE.imp5 pe_str (any_c (fun _ => .str _) (Sb.str (by decide) (by decide +kernel)))) (fun _ _ _ h => h)) (pa_cons (PE.imp5 (t' := tAny0 K p u) (PE.imp5 pe_str (any_c (fun _ => .str _) (Sb.str (by decide) (by decide +kernel)))) (fun _ _ _ h => h)) pa_nil)))) any_tup13) (any_mono (by decide) (by decide))) (pa_cons (PE.imp5 (t' := tAny2 K p u) (PE.imp5 (t' := tAny1 K p u) (pe_tup (pa_cons (PE.imp5 (t' := tAny0 K p u) (PE.imp5 pe_str (any_c (fun _ => .str _) (Sb.str (by decide) (by decide +kernel)))) (fun _ _ _ h => h)) (pa_cons (PE.imp5 (t' := tAny0 K p u) (PE.imp5 pe_bl (any_c (fun _ => .bl _) (sb_bool _))) (fun _ _ _ h => h)) pa_nil))) any_tup12) (any_mono (by decide) (by decide))) pa_nil)))))))) (anyLst_imp (m := 7) (by decide)))))
      (pss_cons (ps_set (i := 3) sc_law_strange5.nd rfl (Or.inl rfl) (pe_op op_cat (pv 3) (PE.imp5 (t' := tAnyLst K p u 4) (pe_lst (pa_cons (PE.imp5 (t' := tAny2 K p u) (PE.imp5 (t' := tAny1 K p u) (pe_tup (pa_cons (PE.imp5 (t' := tAny0 K p u) (PE.imp5 pe_str (any_c (fun _ => .str _) (Sb.str (by decide) (by decide +kernel)))) (fun _ _ _ h => h)) (pa_cons (PE.imp5 (t' := tAny0 K p u) (PE.imp5 pe_int (any_c (fun _ => .int _) (sb_int (by decide) (by decide)))) (fun _ _ _ h => h)) (pa_cons (PE.imp5 (t' := tAny0 K p u) (PE.imp5 pe_non (any_c (fun _ => .non) sb_none)) (fun _ _ _ h => h)) pa_nil)))) any_tup13) (any_mono (by decide) (by decide))) (pa_cons (PE.imp5 (t' := tAny2 K p u) (PE.imp5 (t' := tAny1 K p u) (pe_tup (pa_cons (PE.imp5 (t' := tAny0 K p u) (PE.imp5 pe_str (any_c (fun _ => .str _) (Sb.str (by decide) (by decide +kernel)))) (fun _ _ _ h => h)) (pa_cons (PE.imp5 (t' := tAny0 K p u) (PE.imp5 (pe_op op_mulB (pe_op op_powB pe_int pe_int) (pe_op op_powB pe_int pe_int)) any_big) (fun _ _ _ h => h)) (pa_cons (PE.imp5 (t' := tAny0 K p u) (PE.imp5 pe_str (any_c (fun _ => .str _) (Sb.str (by decide) (by decide +kernel)))) (fun _ _ _ h => h)) pa_nil)))) any_tup13) (any_mono (by decide) (by decide))) (pa_cons (PE.imp5 (t' := tAny2 K p u) (PE.imp5 (t' := tAny1 K p u) (pe_tup (pa_cons (PE.imp5 (t' := tAny0 K p u) (PE.imp5 pe_str (any_c (fun _ => .str _) (Sb.str (by decide) (by decide +kernel)))) (fun _ _ _ h => h)) (pa_cons (PE.imp5 (t' := tAny0 K p u) (PE.imp5 (pv 2) any_size) (fun _ _ _ h => h)) (pa_cons (PE.imp5 (t' := tAny0 K p u) (PE.imp5 pe_str (any_c (fun _ => .str _) (Sb.str (by decide) (by decide +kernel)))) (fun _ _ _ h => h)) pa_nil)))) any_tup13) (any_mono (by decide) (by decide))) (pa_cons (PE.imp5 (t' := tAny2 K p u) (PE.imp5 (t' := tAny1 K p u) (pe_tup (pa_cons (PE.imp5 (t' := tAny0 K p u) (PE.imp5 pe_str (any_c (fun _ => .str _) (Sb.str (by decide) (by decide +kernel)))) (fun _ _ _ h => h)) (pa_cons (PE.imp5 (t' := tAny0 K p u) (PE.imp5 (pe_un un_neg pe_int) any_neg) (fun _ _ _ h => h)) (pa_cons (PE.imp5 (t' := tAny0 K p u) (PE.imp5 pe_str (any_c (fun _ => .str _) (Sb.str (by decide) (by decide +kernel)))) (fun _ _ _ h => h)) pa_nil)))) any_tup13) (any_mono (by decide) (by decide))) pa_nil))))) (anyLst_imp (m := 4) (by decide)))))
      (pss_cons (ps_set (i := 3) sc_law_strange5.nd rfl (Or.inl rfl) (pe_op op_cat (pv 3) (PE.imp5 (t' := tAnyLst K p u 5) (pe_lst (pa_cons (PE.imp5 (t' := tAny2 K p u) (pe_tup (pa_cons (PE.imp5 (t' := tAny1 K p u) (pe_tup (pa_cons (PE.imp5 (t' := tAny0 K p u) (PE.imp5 pe_str (any_c (fun _ => .str _) (Sb.str (by decide) (by decide +kernel)))) (fun _ _ _ h => h)) (pa_cons (PE.imp5 (t' := tAny0 K p u) (PE.imp5 pe_int (any_c (fun _ => .int _) (sb_int (by decide) (by decide)))) (fun _ _ _ h => h)) pa_nil))) any_tup12) pa_nil)) any_tup21) (pa_cons (PE.imp5 (t' := tAny2 K p u) (PE.imp5 (t' := tAny1 K p u) (pe_tup (pa_cons (PE.imp5 (t' := tAny0 K p u) (PE.imp5 pe_str (any_c (fun _ => .str _) (Sb.str (by decide) (by decide +kernel)))) (fun _ _ _ h => h)) (pa_cons (PE.imp5 (t' := tAny0 K p u) (PE.imp5 (pv 2) any_size) (fun _ _ _ h => h)) (pa_cons (PE.imp5 (t' := tAny0 K p u) (PE.imp5 pe_str (any_c (fun _ => .str _) (Sb.str (by decide) (by decide +kernel)))) (fun _ _ _ h => h)) pa_nil)))) any_tup13) (any_mono (by decide) (by decide))) (pa_cons (PE.imp5 (t' := tAny2 K p u) (PE.imp5 (t' := tAny1 K p u) (pe_tup (pa_cons (PE.imp5 (t' := tAny0 K p u) (PE.imp5 pe_str (any_c (fun _ => .str _) (Sb.str (by decide) (by decide +kernel)))) (fun _ _ _ h => h)) (pa_cons (PE.imp5 (t' := tAny0 K p u) (PE.imp5 (pe_op op_sub (pv 2) pe_int) any_sub) (fun _ _ _ h => h)) pa_nil))) any_tup12) (any_mono (by decide) (by decide))) (pa_cons (PE.imp5 (t' := tAny2 K p u) (PE.imp5 (t' := tAny1 K p u) (pe_tup (pa_cons (PE.imp5 (t' := tAny0 K p u) (PE.imp5 pe_str (any_c (fun _ => .str _) (Sb.str (by decide) (by decide +kernel)))) (fun _ _ _ h => h)) (pa_cons (PE.imp5 (t' := tAny0 K p u) (PE.imp5 (pe_op op_sub (pv 2) pe_int) any_sub) (fun _ _ _ h => h)) (pa_cons (PE.imp5 (t' := tAny0 K p u) (PE.imp5 pe_str (any_c (fun _ => .str _) (Sb.str (by decide) (by decide +kernel)))) (fun _ _ _ h => h)) pa_nil)))) any_tup13) (any_mono (by decide) (by decide))) (pa_cons (PE.imp5 (t' := tAny2 K p u) (pe_tup (pa_cons (PE.imp5 (t' := tAny1 K p u) (PE.imp5 (t' := tAny0 K p u) (PE.imp5 pe_str (any_c (fun _ => .str _) (Sb.str (by decide) (by decide +kernel)))) (fun _ _ _ h => h)) (any_mono (by decide) (by decide))) (pa_cons (PE.imp5 (t' := tAny1 K p u) (PE.imp5 (t' := tAny0 K p u) (PE.imp5 pe_int (any_c (fun _ => .int _) (sb_int (by decide) (by decide)))) (fun _ _ _ h => h)) (any_mono (by decide) (by decide))) (pa_cons (PE.imp5 (t' := tAny1 K p u) (pe_lst (pa_cons (PE.imp5 (t' := tAny0 K p u) (PE.imp5 pe_str (any_c (fun _ => .str _) (Sb.str (by decide) (by decide +kernel)))) (fun _ _ _ h => h)) pa_nil)) any_lst11) pa_nil)))) any_tup23) pa_nil)))))) (anyLst_imp (m := 5) (by decide)))))
      (pss_one (ps_ret (pe_c c_law_choice hr (by decide) (by rfl) (pa_cons (pv 0) (pa_cons (pe_op op_cat (pv 3) (PE.imp5 (t' := tAnyLst K p u 5) (pe_lst (pa_cons (PE.imp5 (t' := tAny2 K p u) (PE.imp5 (t' := tAny1 K p u) (pe_tup (pa_cons (PE.imp5 (t' := tAny0 K p u) (PE.imp5 pe_non (any_c (fun _ => .non) sb_none)) (fun _ _ _ h => h)) (pa_cons (PE.imp5 (t' := tAny0 K p u) (PE.imp5 pe_int (any_c (fun _ => .int _) (sb_int (by decide) (by decide)))) (fun _ _ _ h => h)) (pa_cons (PE.imp5 (t' := tAny0 K p u) (PE.imp5 pe_str (any_c (fun _ => .str _) (Sb.str (by decide) (by decide +kernel)))) (fun _ _ _ h => h)) pa_nil)))) any_tup13) (any_mono (by decide) (by decide))) (pa_cons (PE.imp5 (t' := tAny2 K p u) (pe_tup (pa_cons (PE.imp5 (t' := tAny1 K p u) (PE.imp5 (t' := tAny0 K p u) (PE.imp5 pe_str (any_c (fun _ => .str _) (Sb.str (by decide) (by decide +kernel)))) (fun _ _ _ h => h)) (any_mono (by decide) (by decide))) (pa_cons (PE.imp5 (t' := tAny1 K p u) (pe_tup (pa_cons (PE.imp5 (t' := tAny0 K p u) (PE.imp5 pe_int (any_c (fun _ => .int _) (sb_int (by decide) (by decide)))) (fun _ _ _ h => h)) pa_nil)) any_tup11) (pa_cons (PE.imp5 (t' := tAny1 K p u) (PE.imp5 (t' := tAny0 K p u) (PE.imp5 pe_str (any_c (fun _ => .str _) (Sb.str (by decide) (by decide +kernel)))) (fun _ _ _ h => h)) (any_mono (by decide) (by decide))) pa_nil)))) any_tup23) (pa_cons (PE.imp5 (t' := tAny2 K p u) (PE.imp5 (t' := tAny1 K p u) (pe_tup (pa_cons (PE.imp5 (t' := tAny0 K p u) (PE.imp5 pe_str (any_c (fun _ => .str _) (Sb.str (by decide) (by decide +kernel)))) (fun _ _ _ h => h)) (pa_cons (PE.imp5 (t' := tAny0 K p u) (PE.imp5 pe_int (any_c (fun _ => .int _) (sb_int (by decide) (by decide)))) (fun _ _ _ h => h)) pa_nil))) any_tup12) (any_mono (by decide) (by decide))) (pa_cons (PE.imp5 (t' := tAny2 K p u) (PE.imp5 (t' := tAny1 K p u) (pe_tup (pa_cons (PE.imp5 (t' := tAny0 K p u) (PE.imp5 pe_str (any_c (fun _ => .str _) (Sb.str (by decide) (by decide +kernel)))) (fun _ _ _ h => h)) (pa_cons (PE.imp5 (t' := tAny0 K p u) (PE.imp5 pe_int (any_c (fun _ => .int _) (sb_int (by decide) (by decide)))) (fun _ _ _ h => h)) (pa_cons (PE.imp5 (t' := tAny0 K p u) (PE.imp5 pe_str (any_c (fun _ => .str _) (Sb.str (by decide) (by decide +kernel)))) (fun _ _ _ h => h)) pa_nil)))) any_tup13) (any_mono (by decide) (by decide))) (pa_cons (PE.imp5 (t' := tAny2 K p u) (PE.imp5 (t' := tAny1 K p u) (pe_lst (pa_cons (PE.imp5 (t' := tAny0 K p u) (PE.imp5 pe_str (any_c (fun _ => .str _) (Sb.str (by decide) (by decide +kernel)))) (fun _ _ _ h => h)) (pa_cons (PE.imp5 (t' := tAny0 K p u) (PE.imp5 pe_int (any_c (fun _ => .int _) (sb_int (by decide) (by decide)))) (fun _ _ _ h => h)) (pa_cons (PE.imp5 (t' := tAny0 K p u) (PE.imp5 pe_str (any_c (fun _ => .str _) (Sb.str (by decide) (by decide +kernel)))) (fun _ _ _ h => h)) pa_nil)))) any_lst13) (any_mono (by decide) (by decide))) pa_nil)))))) (anyLst_imp (m := 5) (by decide)))) pa_nil))))))))))), ?_⟩
    have big : 100000 < sizeLine := by decide
    have lw : (wS u).length = u.length := wS_len u
    refine ⟨_, rfl, wS u, rfl, by omega, ?_⟩
    rw [lw]
    have st : ∀ o3, StU p u [some (.ref p), some (.str (wS u)), some (.int ((u.length : Nat) : Int)), o3] := fun o3 => ⟨rfl, rfl, rfl, lu, su⟩
    refine ⟨st _, hp, fun L0 ws0 es0 G0 ex0 p0 nL0 g0 d0 lw0 sw0 => ?_⟩
    refine ⟨_, rfl, st _, p0, fun M1 vs1 ds1 H1 e1 hp1 nM1 hM1 hd1 hl1 sb1 => ⟨L0, M1, _, _, rfl, rfl, e1 _ _ g0, hM1, by omega, fun L1 hL1 => ?_⟩⟩
    have sl1 := same_new (o := .lst (ws0 ++ vs1)) hL1
    have ex1 := (ex0.trans e1).trans sl1
    have g1 : upd H1 L1 (.lst (ws0 ++ vs1)) L1 = some (.lst (ws0 ++ vs1)) := upd_same
    have d1 := dpa_app (dpa_same (gb_same (p := p) (e1.trans sl1)) _ _ d0) (dpa_same (gb_same (p := p) sl1) _ _ hd1)
    have p1 := pot_same hp1 sl1
    have nL1 : L1 ≠ p := new_ne hp1 hL1
    generalize upd H1 L1 (.lst (ws0 ++ vs1)) = G1 at ex1 g1 d1 p1 ⊢
    have lw1 : (ws0 ++ vs1).length = 12 := by rw [List.length_append, lw0, hl1]
    have sw1 : ∀ d ∈ es0 ++ ds1, Sb 2 3612 d := fun d hd => (List.mem_append.mp hd).elim (sw0 d) (sb1 d)
    generalize ws0 ++ vs1 = ws1 at g1 d1 lw1 ⊢
    generalize es0 ++ ds1 = es1 at d1 sw1
    refine ⟨_, rfl, st _, p1, fun M2 vs2 ds2 H2 e2 hp2 nM2 hM2 hd2 hl2 sb2 => ⟨L1, M2, _, _, rfl, rfl, e2 _ _ g1, hM2, by omega, fun L2 hL2 => ?_⟩⟩
    have sl2 := same_new (o := .lst (ws1 ++ vs2)) hL2
    have ex2 := (ex1.trans e2).trans sl2
    have g2 : upd H2 L2 (.lst (ws1 ++ vs2)) L2 = some (.lst (ws1 ++ vs2)) := upd_same
    have d2 := dpa_app (dpa_same (gb_same (p := p) (e2.trans sl2)) _ _ d1) (dpa_same (gb_same (p := p) sl2) _ _ hd2)
    have p2 := pot_same hp2 sl2
    have nL2 : L2 ≠ p := new_ne hp2 hL2
    generalize upd H2 L2 (.lst (ws1 ++ vs2)) = G2 at ex2 g2 d2 p2 ⊢
    have lw2 : (ws1 ++ vs2).length = 19 := by rw [List.length_append, lw1, hl2]
    have sw2 : ∀ d ∈ es1 ++ ds2, Sb 2 3612 d := fun d hd => (List.mem_append.mp hd).elim (sw1 d) (sb2 d)
    generalize ws1 ++ vs2 = ws2 at g2 d2 lw2 ⊢
    generalize es1 ++ ds2 = es2 at d2 sw2
    refine ⟨_, rfl, st _, p2, fun M3 vs3 ds3 H3 e3 hp3 nM3 hM3 hd3 hl3 sb3 => ⟨L2, M3, _, _, rfl, rfl, e3 _ _ g2, hM3, by omega, fun L3 hL3 => ?_⟩⟩
    have sl3 := same_new (o := .lst (ws2 ++ vs3)) hL3
    have ex3 := (ex2.trans e3).trans sl3
    have g3 : upd H3 L3 (.lst (ws2 ++ vs3)) L3 = some (.lst (ws2 ++ vs3)) := upd_same
    have d3 := dpa_app (dpa_same (gb_same (p := p) (e3.trans sl3)) _ _ d2) (dpa_same (gb_same (p := p) sl3) _ _ hd3)
    have p3 := pot_same hp3 sl3
    have nL3 : L3 ≠ p := new_ne hp3 hL3
    generalize upd H3 L3 (.lst (ws2 ++ vs3)) = G3 at ex3 g3 d3 p3 ⊢
    have lw3 : (ws2 ++ vs3).length = 23 := by rw [List.length_append, lw2, hl3]
    have sw3 : ∀ d ∈ es2 ++ ds3, Sb 2 3612 d := fun d hd => (List.mem_append.mp hd).elim (sw2 d) (sb3 d)
    generalize ws2 ++ vs3 = ws3 at g3 d3 lw3 ⊢
    generalize es2 ++ ds3 = es3 at d3 sw3
    refine ⟨_, rfl, st _, p3, fun M4 vs4 ds4 H4 e4 hp4 nM4 hM4 hd4 hl4 sb4 => ⟨L3, M4, _, _, rfl, rfl, e4 _ _ g3, hM4, by omega, fun L4 hL4 => ?_⟩⟩
    have sl4 := same_new (o := .lst (ws3 ++ vs4)) hL4
    have ex4 := (ex3.trans e4).trans sl4
    have g4 : upd H4 L4 (.lst (ws3 ++ vs4)) L4 = some (.lst (ws3 ++ vs4)) := upd_same
    have d4 := dpa_app (dpa_same (gb_same (p := p) (e4.trans sl4)) _ _ d3) (dpa_same (gb_same (p := p) sl4) _ _ hd4)
    have p4 := pot_same hp4 sl4
    have nL4 : L4 ≠ p := new_ne hp4 hL4
    generalize upd H4 L4 (.lst (ws3 ++ vs4)) = G4 at ex4 g4 d4 p4 ⊢
    have lw4 : (ws3 ++ vs4).length = 28 := by rw [List.length_append, lw3, hl4]
    have sw4 : ∀ d ∈ es3 ++ ds4, Sb 2 3612 d := fun d hd => (List.mem_append.mp hd).elim (sw3 d) (sb4 d)
    generalize ws3 ++ vs4 = ws4 at g4 d4 lw4 ⊢
    generalize es3 ++ ds4 = es4 at d4 sw4
    refine ⟨_, rfl, _, rfl, st _, p4, fun M5 vs5 ds5 H5 e5 hp5 nM5 hM5 hd5 hl5 sb5 => ⟨L4, M5, _, _, rfl, rfl, e5 _ _ g4, hM5, by omega, fun L5 hL5 => ?_⟩⟩
    have sl5 := same_new (o := .lst (ws4 ++ vs5)) hL5
    have ex5 := (ex4.trans e5).trans sl5
    have g5 : upd H5 L5 (.lst (ws4 ++ vs5)) L5 = some (.lst (ws4 ++ vs5)) := upd_same
    have d5 := dpa_app (dpa_same (gb_same (p := p) (e5.trans sl5)) _ _ d4) (dpa_same (gb_same (p := p) sl5) _ _ hd5)
    have p5 := pot_same hp5 sl5
    have nL5 : L5 ≠ p := new_ne hp5 hL5
    generalize upd H5 L5 (.lst (ws4 ++ vs5)) = G5 at ex5 g5 d5 p5 ⊢
    have lw5 : (ws4 ++ vs5).length = 33 := by rw [List.length_append, lw4, hl5]
    have sw5 : ∀ d ∈ es4 ++ ds5, Sb 2 3612 d := fun d hd => (List.mem_append.mp hd).elim (sw4 d) (sb5 d)
    generalize ws4 ++ vs5 = ws5 at g5 d5 lw5 ⊢
    generalize es4 ++ ds5 = es5 at d5 sw5
    refine ⟨p, L5, ws5, rfl, p5, nL5, SqL.of g5, by omega, by omega, fun v a' b' c' hv => ?_⟩
    obtain ⟨i, hi, rfl⟩ := List.mem_iff_getElem.mp hv
    have li : i < es5.length := by rw [← dpa_len d5]; exact hi
    have ex6 : Ex p G5 (upd G5 p (potO a' b' c')) := Ex.turn
    exact hQ _ es5[i] _ ((ex_same hp ex5).trans ex6) (dp_same (gb_ex ex6) _ _ (dpa_get d5 (List.getElem?_eq_getElem hi) (List.getElem?_eq_getElem li))) (sw5 _ (List.getElem_mem li))
end
end MN
/-! _law_spoiled: a row of changes with a change that is wrong, or out of order -/
namespace MN
open PySem PySem.Spec PyProof.Rows L2 MNE
/-- a row drawn or spoiled -/
structure RwX (K : PySem.W.Frag) (p : Addr) (H : Hp) (R : Addr) (xs : List V) (ds : List PyData) : Prop where
  ne : R ≠ p
  at_ : H R = some (.lst xs)
  dp : DpAll K (Gb p H) xs ds
  sb : ∀ d ∈ ds, Sb 2 3612 d
theorem RwX.ex {K : PySem.W.Frag} {p : Addr} {H H' : Hp} {R : Addr} {xs : List V} {ds : List PyData} (h : RwX K p H R xs ds) (e : Ex p H H') : RwX K p H' R xs ds := ⟨h.ne, e.keep _ _ h.ne h.at_, dpa_same (gb_ex e) _ _ h.dp, h.sb⟩
theorem dpa_take {K : PySem.W.Frag} {H : Hp} : ∀ {k : Nat} {vs : List V} {ds : List PyData}, DpAll K H vs ds → DpAll K H (vs.take k) (ds.take k)
  | 0, _, _, _ => by rw [List.take_zero, List.take_zero]; exact .nil
  | k + 1, _, _, .nil => .nil
  | k + 1, _, _, .cons h r => .cons h (dpa_take r)
theorem dpa_drop {K : PySem.W.Frag} {H : Hp} : ∀ {k : Nat} {vs : List V} {ds : List PyData}, DpAll K H vs ds → DpAll K H (vs.drop k) (ds.drop k)
  | 0, _, _, h => h
  | k + 1, _, _, .nil => .nil
  | k + 1, _, _, .cons h r => dpa_drop (k := k) r
theorem cutV_to {xs : List V} (k : Nat) : cutV xs none (some ((k : Nat) : Int)) = xs.take k := by
  unfold cutV
  rw [HT.sIx_nat, HT.sIx_none, List.drop_zero, Nat.sub_zero]
  by_cases h : k ≤ xs.length
  · rw [Nat.min_eq_left h]
  · rw [Nat.min_eq_right (by omega), List.take_length, List.take_of_length_le (by omega)]
theorem cutV_from {xs : List V} (k : Nat) : cutV xs (some ((k : Nat) : Int)) none = xs.drop k := by
  unfold cutV
  rw [HT.sIx_nat, HT.sIx_none]
  by_cases h : k ≤ xs.length
  · rw [Nat.min_eq_left h, List.take_of_length_le (by rw [List.length_drop]; omega)]
  · rw [Nat.min_eq_right (by omega), List.drop_eq_nil_of_le (Nat.le_refl _), List.drop_eq_nil_of_le (by omega), List.take_nil]
theorem cutV_mid {xs : List V} (k : Nat) : cutV xs (some ((k : Nat) : Int)) (some (((k : Nat) : Int) + 1)) = (xs.drop k).take 1 := by
  unfold cutV
  rw [show ((k : Nat) : Int) + 1 = ((k + 1 : Nat) : Int) by omega, HT.sIx_nat, HT.sIx_nat]
  by_cases h : k < xs.length
  · rw [Nat.min_eq_left (by omega), Nat.min_eq_left (by omega)]
    congr 1
    omega
  · rw [Nat.min_eq_right (by omega), Nat.min_eq_right (by omega), List.drop_eq_nil_of_le (Nat.le_refl _), List.drop_eq_nil_of_le (by omega), List.take_nil, List.take_nil]
theorem cutV_from1 {xs : List V} (k : Nat) : cutV xs (some (((k : Nat) : Int) + 1)) none = xs.drop (k + 1) := cutV_from (k + 1)
section
variable {P : Program} {w : World} {K : PySem.W.Frag} {mg : Str → Option Value} {base : Heap}
def spSpoil5 (K : PySem.W.Frag) : Sp := fun vs H Q _ => ∃ (p R : Addr) (u : List Nat) (xs : List V) (ds : List PyData), vs = [.ref p, .str (wS u), .ref R] ∧ Pot H p ∧ (∀ a ∈ u, a ∈ abc) ∧ u.length ≤ 950 ∧ RwX K p H R xs ds ∧ ds.length ≤ 12 ∧ ∀ F ys es H', Ex p H H' → RwX K p H' F ys es → es.length ≤ ds.length + 1 → Q (.ref F) H'
abbrev N_law_spoil5 : List Str := ["_law_cup_here", "_law_word", "_law_row", "_law_spot", "_law_way", "_law_words"]
theorem sc_law_spoil5 : FnScope N_law_spoil5 ["_law_cup_here", "_law_word", "_law_row"] (defScope (top 52)) := ⟨rfl, rfl, rfl, by decide +kernel, rfl, by decide +kernel, by decide +kernel⟩
theorem c_law_spoil5 (A : At K mg "_law_spoiled" (top 52)) (B : Blt mg) (c_law_toss : Cal P w K mg base 1 "_law_toss" spDip) (c_law_run5 : Cal P w K mg base 2 "_law_run" (spAlong5 K)) (c_law_strange5 : Cal P w K mg base 3 "_law_strange" (spStrange5 K)) : Cal P w K mg base 4 "_law_spoiled" (spSpoil5 K) := by
  refine cal_of A sc_law_spoil5 (fun _ _ _ _ _ _ us hl => match us, hl with | [_, _, _], _ => rfl) (fun vs H Q E h => ?_) (fun _ cdv A outer s H vs Q E hr h => ?_)
  · obtain ⟨_, _, _, _, _, rfl, _⟩ := h; rfl
  · obtain ⟨p, R, u, xs, ds, rfl, hp, su, lu, hR, ld, hQ⟩ := h
    refine ⟨_, (pss_cons (ps_par (i := 3) (j := 4) (by rfl) sc_law_spoil5.nd rfl rfl (by decide) rfl rfl (pa_cons (pe_c c_law_toss hr (by decide) (by rfl) (pa_cons (pv 0) (pa_cons (pe_op op_add (pe_callB call_len_seq (by rfl) B.len (by decide +kernel) (pa_cons (pv 2) pa_nil)) pe_int) pa_nil))) (pa_cons (pe_c c_law_toss hr (by decide) (by rfl) (pa_cons (pv 0) (pa_cons pe_int pa_nil))) pa_nil)) (by rfl))
      (pss_cons (ps_set (i := 5) sc_law_spoil5.nd rfl (Or.inl rfl) (pe_c c_law_run5 hr (by decide) (by rfl) (pa_cons (pv 1) (pa_cons (pe_callTy call_tuple_of (by rfl) B.tuple (by decide +kernel) (pa_cons (pe_slice sl_list (pv 2) po_none (po_some (pv 3))) pa_nil)) pa_nil))))
      (pss_cons (ps_if (PW.pt (pw_or (PW.pt (pw_and (pt_cmpR op_eq (pv 4) pe_int (nomark _)) (pw_and1 (pt_cmpR op_notN (pv 5) pe_non (nomark _))))) (pw_or1 (pt_cmpR (op_eqD hr.units) (pv 2) (pe_lst pa_nil) (nomark _))))) (pss_one (ps_ret (pe_op op_cat (pe_op op_cat (pe_slice sl_list (pv 2) po_none (po_some (pv 3))) (pe_lst (pa_cons (pe_c c_law_strange5 hr (by decide) (by rfl) (pa_cons (pv 0) (pa_cons (pe_ifExp (pt_cmpR op_isN (pv 5) pe_non (nomark _)) (pv 1) (pe_ix ix_list (pv 5) (pe_un un_neg pe_int) (fun _ _ => rfl))) pa_nil))) pa_nil))) (pe_slice sl_list (pv 2) (po_some (pe_op op_add (pv 3) pe_int)) po_none)))) pss_nil)
      (pss_cons (ps_if (pt_cmpR op_eq (pv 4) pe_int (nomark _)) (pss_one (ps_ret (pe_op op_cat (pe_op op_cat (pe_slice sl_list (pv 2) po_none (po_some (pv 3))) (pe_slice sl_list (pv 2) (po_some (pv 3)) (po_some (pe_op op_add (pv 3) pe_int)))) (pe_slice sl_list (pv 2) (po_some (pv 3)) po_none)))) pss_nil)
      (pss_one (ps_ret (pe_ifExp (pt_cmpR op_eq (pv 4) pe_int (nomark _)) (pe_op op_cat (pe_slice sl_list (pv 2) po_none (po_some (pv 3))) (pe_slice sl_list (pv 2) (po_some (pe_op op_add (pv 3) pe_int)) po_none)) (pe_op op_cat (pe_slice sl_list (pv 2) (po_some (pv 3)) po_none) (pe_slice sl_list (pv 2) po_none (po_some (pv 3))))))))))), ?_⟩
    have big : 100000 < sizeLine := by decide
    have one : 1 ≤ sizeLine := by decide
    have lx := dpa_len hR.dp
    obtain ⟨a1, b1, c1, hp1⟩ := id hp
    refine ⟨_, rfl, _, rfl, R, xs, rfl, .inl (SqL.of hR.at_), _, _, rfl, rfl, p, _, a1, b1, c1, rfl, hp1, by omega, by omega, fun sp x1 y1 z1 s0 s1 => ?_⟩
    have ex1 : Ex p H (upd H p (potO x1 y1 z1)) := Ex.turn
    generalize upd H p (potO x1 y1 z1) = H1 at ex1 ⊢
    obtain ⟨k, rfl⟩ : ∃ k : Nat, sp = ((k : Nat) : Int) := ⟨sp.toNat, by omega⟩
    have kle : k ≤ xs.length := by omega
    obtain ⟨a2, b2, c2, hp2⟩ := id ex1.pot
    refine ⟨_, rfl, p, 4, a2, b2, c2, rfl, hp2, by decide, by decide, fun way x2 y2 z2 w0 w1 => ?_⟩
    have ex2 : Ex p H (upd H1 p (potO x2 y2 z2)) := ex1.trans Ex.turn
    generalize upd H1 p (potO x2 y2 z2) = H2 at ex2 ⊢
    have R2 := hR.ex ex2
    refine ⟨_, _, rfl, _, rfl, _, rfl, _, rfl, _, rfl, R, xs, rfl, SqL.of R2.at_, fun F0 hF0 => ?_⟩
    have sF := same_new (o := .lst (cutV xs none (some ((k : Nat) : Int)))) hF0
    refine ⟨F0, _, rfl, .inl ⟨SqL.of upd_same, fun T0 hT0 => ?_⟩⟩
    have sT := same_new (o := .tup (cutV xs none (some ((k : Nat) : Int)))) hT0
    have hT1 : upd (upd H2 F0 (.lst (cutV xs none (some ((k : Nat) : Int))))) T0 (.tup (cutV xs none (some ((k : Nat) : Int)))) T0 = some (.tup (xs.take k)) := by rw [upd_same, cutV_to]
    have ex3 : Ex p H (upd (upd H2 F0 (.lst (cutV xs none (some ((k : Nat) : Int))))) T0 (.tup (cutV xs none (some ((k : Nat) : Int))))) := ex2.trans (ex_same ex2.pot (sF.trans sT))
    generalize upd (upd H2 F0 (.lst (cutV xs none (some ((k : Nat) : Int))))) T0 (.tup (cutV xs none (some ((k : Nat) : Int)))) = H3 at ex3 hT1 ⊢
    have R3 := hR.ex ex3
    have row : RowD K H3 (.ref T0) (.tuple (ds.take k)) := by
      refine .inl ⟨.tup (.inl (.inl hT1)) (dpa_same gb_gnd.same _ _ (dpa_take R3.dp)), (Sb.tuple fun d hd => R3.sb d (List.mem_of_mem_take hd)).mono (by decide) ?_, fun ds' e => ?_⟩
      · have : (ds.take k).length ≤ 12 := by rw [List.length_take]; omega
        have := Nat.mul_le_mul_right (3612 + 1) this
        omega
      · injection e with e
        rw [← e, List.length_take]
        omega
    have shD : SeqAt.shaped (.list ds) = true := (Sb.list hR.sb).shaped (by decide)
    have shN : SeqAt.shaped (.list []) = true := by decide
    have c1 := cutV_length xs none (some ((k : Nat) : Int))
    have c2 := cutV_length xs (some ((k : Nat) : Int)) none
    have c3 := cutV_length xs (some (((k : Nat) : Int) + 1)) none
    have c4 := cutV_length xs (some ((k : Nat) : Int)) (some (((k : Nat) : Int) + 1))
    refine ⟨u, .ref T0, .tuple (ds.take k), rfl, by omega, row, fun cs ho W H4 e4 hW => ?_, fun no H4 e4 => ?_⟩
    · skip
      have ex := ex3.trans (ex_same ex3.pot e4)
      have nW : W ≠ p := fun z => by
        obtain ⟨q1, q2, q3, q⟩ := ex.pot
        rw [z, q] at hW
        cases cs <;> cases hW
      have aW := hW
      have lcs : cs.length ≤ 12 := by
        have := ho.2
        injection this with this
        have := congrArg List.length this
        rw [List.length_map, List.length_take] at this
        omega
      have llw := lastW_len ho.1
      have lastAt : atI (wordsV (along u cs)) (-1) = some (.str (wS (lastW u cs))) := by
        have h1 : (wordsV (along u cs))[cs.length]? = some (.str (wS (lastW u cs))) := by
          rw [wordsV, List.getElem?_map, along_last]
          rfl
        exact at_last5 (by rw [wordsV, List.length_map, along_len]) h1
      by_cases hw : way = 0
      · refine ⟨_, rfl, rfl, _, rfl, iteY (decide_eq_true (by rw [hw])) ⟨_, rfl, rfl, _, rfl, iteY rfl ?_⟩⟩
        refine ⟨_, rfl, _, rfl, _, rfl, R, xs, rfl, SqL.of (hR.ex ex).at_, fun F1 hF1 => ?_⟩
        have sF1 := same_new (o := .lst (cutV xs none (some ((k : Nat) : Int)))) hF1
        have aF1 : upd H4 F1 (.lst (cutV xs none (some ((k : Nat) : Int)))) F1 = some (.lst (cutV xs none (some ((k : Nat) : Int)))) := upd_same
        replace aW := sF1 _ _ aW
        have eF1 := ex.trans (ex_same ex.pot sF1)
        have nF1 : F1 ≠ p := new_ne ex.pot hF1
        clear ex; have ex := eF1; clear eF1
        clear sF1
        generalize upd H4 F1 (.lst (cutV xs none (some ((k : Nat) : Int)))) = H4_0 at ex aW aF1 ⊢
        refine ⟨_, rfl, _, rfl, rfl, _, rfl, iteN rfl ⟨_, rfl, _, rfl, W, _, _, _, rfl, rfl, SqL.of aW, lastAt, p, lastW u cs, rfl, ex.pot, lastW_sg ho.1 su, by omega, fun v d H7 ex7 hd7 sbd => ⟨one, ?_⟩⟩⟩
        replace aF1 := ex7.keep _ _ nF1 aF1
        replace aW := ex7.keep _ _ nW aW
        have e7 := ex.trans ex7; clear ex; have ex := e7; clear e7
        refine fun F2 hF2 => ?_
        have sF2 := same_new (o := .lst ([v])) hF2
        have aF2 : upd H7 F2 (.lst ([v])) F2 = some (.lst ([v])) := upd_same
        replace aW := sF2 _ _ aW
        replace aF1 := sF2 _ _ aF1
        have eF2 := ex.trans (ex_same ex.pot sF2)
        have nF2 : F2 ≠ p := new_ne ex.pot hF2
        clear ex; have ex := eF2; clear eF2
        replace hd7 := dp_same (gb_same (p := p) sF2) _ _ hd7
        clear sF2
        generalize upd H7 F2 (.lst ([v])) = H7_1 at ex aW aF1 aF2 hd7 ⊢
        refine ⟨F1, F2, _, _, rfl, rfl, aF1, aF2, by (try simp only [List.length_append, List.length_cons, List.length_nil]); omega, fun F3 hF3 => ?_⟩
        have sF3 := same_new (o := .lst ((cutV xs none (some ((k : Nat) : Int))) ++ [v])) hF3
        have aF3 : upd H7_1 F3 (.lst ((cutV xs none (some ((k : Nat) : Int))) ++ [v])) F3 = some (.lst ((cutV xs none (some ((k : Nat) : Int))) ++ [v])) := upd_same
        replace aW := sF3 _ _ aW
        replace aF1 := sF3 _ _ aF1
        replace aF2 := sF3 _ _ aF2
        have eF3 := ex.trans (ex_same ex.pot sF3)
        have nF3 : F3 ≠ p := new_ne ex.pot hF3
        clear ex; have ex := eF3; clear eF3
        replace hd7 := dp_same (gb_same (p := p) sF3) _ _ hd7
        clear sF3
        generalize upd H7_1 F3 (.lst ((cutV xs none (some ((k : Nat) : Int))) ++ [v])) = H7_1_2 at ex aW aF1 aF2 aF3 hd7 ⊢
        refine ⟨_, rfl, _, rfl, _, _, rfl, rfl, _, rfl, R, xs, rfl, SqL.of (hR.ex ex).at_, fun F4 hF4 => ?_⟩
        have sF4 := same_new (o := .lst (cutV xs (some (((k : Nat) : Int) + 1)) none)) hF4
        have aF4 : upd H7_1_2 F4 (.lst (cutV xs (some (((k : Nat) : Int) + 1)) none)) F4 = some (.lst (cutV xs (some (((k : Nat) : Int) + 1)) none)) := upd_same
        replace aW := sF4 _ _ aW
        replace aF1 := sF4 _ _ aF1
        replace aF2 := sF4 _ _ aF2
        replace aF3 := sF4 _ _ aF3
        have eF4 := ex.trans (ex_same ex.pot sF4)
        have nF4 : F4 ≠ p := new_ne ex.pot hF4
        clear ex; have ex := eF4; clear eF4
        replace hd7 := dp_same (gb_same (p := p) sF4) _ _ hd7
        clear sF4
        generalize upd H7_1_2 F4 (.lst (cutV xs (some (((k : Nat) : Int) + 1)) none)) = H7_1_2_3 at ex aW aF1 aF2 aF3 aF4 hd7 ⊢
        refine ⟨F3, F4, _, _, rfl, rfl, aF3, aF4, by (try simp only [List.length_append, List.length_cons, List.length_nil]); omega, fun F5 hF5 => ?_⟩
        have sF5 := same_new (o := .lst (((cutV xs none (some ((k : Nat) : Int))) ++ [v]) ++ (cutV xs (some (((k : Nat) : Int) + 1)) none))) hF5
        have aF5 : upd H7_1_2_3 F5 (.lst (((cutV xs none (some ((k : Nat) : Int))) ++ [v]) ++ (cutV xs (some (((k : Nat) : Int) + 1)) none))) F5 = some (.lst (((cutV xs none (some ((k : Nat) : Int))) ++ [v]) ++ (cutV xs (some (((k : Nat) : Int) + 1)) none))) := upd_same
        replace aW := sF5 _ _ aW
        replace aF1 := sF5 _ _ aF1
        replace aF2 := sF5 _ _ aF2
        replace aF3 := sF5 _ _ aF3
        replace aF4 := sF5 _ _ aF4
        have eF5 := ex.trans (ex_same ex.pot sF5)
        have nF5 : F5 ≠ p := new_ne ex.pot hF5
        clear ex; have ex := eF5; clear eF5
        replace hd7 := dp_same (gb_same (p := p) sF5) _ _ hd7
        clear sF5
        generalize upd H7_1_2_3 F5 (.lst (((cutV xs none (some ((k : Nat) : Int))) ++ [v]) ++ (cutV xs (some (((k : Nat) : Int) + 1)) none))) = H7_1_2_3_4 at ex aW aF1 aF2 aF3 aF4 aF5 hd7 ⊢
        have RF := hR.ex ex
        have dpF := dpa_app (dpa_app (dpa_take (k := k) RF.dp) (.cons hd7 .nil)) (dpa_drop (k := k + 1) RF.dp)
        refine hQ F5 _ (((ds.take k) ++ [d]) ++ (ds.drop (k + 1))) _ ex ⟨nF5, aF5, ?_, fun d' hd => ?_⟩ ?_
        · simp only [cutV_to, cutV_from, cutV_from1, cutV_mid]
          exact dpF
        · simp only [List.mem_append, List.mem_singleton] at hd
          rcases hd with (h | rfl) | h
          · exact hR.sb _ (List.mem_of_mem_take h)
          · exact sbd
          · exact hR.sb _ (List.mem_of_mem_drop h)
        · simp only [List.length_append, List.length_take, List.length_drop, List.length_cons, List.length_nil]
          omega
      · refine ⟨_, rfl, rfl, _, rfl, iteN (decide_eq_false fun e => by injection e with e; exact hw e) ?_⟩
        refine ⟨_, rfl, Nat.zero_le _, fun E0 hE0 => ⟨.list ds, .list [], ?_⟩⟩
        have sE := same_new (o := .lst []) hE0
        have eE := ex.trans (ex_same ex.pot sE)
        have aE : upd H4 E0 (.lst []) E0 = some (.lst []) := upd_same
        clear ex; have ex := eE; clear eE
        replace aW := sE _ _ aW
        clear sE
        generalize upd H4 E0 (.lst []) = H5 at ex aE aW ⊢
        have RE := hR.ex ex
        refine ⟨.lst (SqL.of RE.at_) (dpa_same gb_gnd.same _ _ RE.dp), .lst (SqL.of aE) .nil, shD, shN, _, rfl, ite2 (fun _ => ?_) (fun _ => ?_)⟩
        · skip
          refine ⟨_, rfl, _, rfl, _, rfl, R, xs, rfl, SqL.of (hR.ex ex).at_, fun F1 hF1 => ?_⟩
          have sF1 := same_new (o := .lst (cutV xs none (some ((k : Nat) : Int)))) hF1
          have aF1 : upd H5 F1 (.lst (cutV xs none (some ((k : Nat) : Int)))) F1 = some (.lst (cutV xs none (some ((k : Nat) : Int)))) := upd_same
          replace aW := sF1 _ _ aW
          have eF1 := ex.trans (ex_same ex.pot sF1)
          have nF1 : F1 ≠ p := new_ne ex.pot hF1
          clear ex; have ex := eF1; clear eF1
          clear sF1
          generalize upd H5 F1 (.lst (cutV xs none (some ((k : Nat) : Int)))) = H5_0 at ex aW aF1 ⊢
          refine ⟨_, rfl, _, rfl, rfl, _, rfl, iteN rfl ⟨_, rfl, _, rfl, W, _, _, _, rfl, rfl, SqL.of aW, lastAt, p, lastW u cs, rfl, ex.pot, lastW_sg ho.1 su, by omega, fun v d H7 ex7 hd7 sbd => ⟨one, ?_⟩⟩⟩
          replace aF1 := ex7.keep _ _ nF1 aF1
          replace aW := ex7.keep _ _ nW aW
          have e7 := ex.trans ex7; clear ex; have ex := e7; clear e7
          refine fun F2 hF2 => ?_
          have sF2 := same_new (o := .lst ([v])) hF2
          have aF2 : upd H7 F2 (.lst ([v])) F2 = some (.lst ([v])) := upd_same
          replace aW := sF2 _ _ aW
          replace aF1 := sF2 _ _ aF1
          have eF2 := ex.trans (ex_same ex.pot sF2)
          have nF2 : F2 ≠ p := new_ne ex.pot hF2
          clear ex; have ex := eF2; clear eF2
          replace hd7 := dp_same (gb_same (p := p) sF2) _ _ hd7
          clear sF2
          generalize upd H7 F2 (.lst ([v])) = H7_1 at ex aW aF1 aF2 hd7 ⊢
          refine ⟨F1, F2, _, _, rfl, rfl, aF1, aF2, by (try simp only [List.length_append, List.length_cons, List.length_nil]); omega, fun F3 hF3 => ?_⟩
          have sF3 := same_new (o := .lst ((cutV xs none (some ((k : Nat) : Int))) ++ [v])) hF3
          have aF3 : upd H7_1 F3 (.lst ((cutV xs none (some ((k : Nat) : Int))) ++ [v])) F3 = some (.lst ((cutV xs none (some ((k : Nat) : Int))) ++ [v])) := upd_same
          replace aW := sF3 _ _ aW
          replace aF1 := sF3 _ _ aF1
          replace aF2 := sF3 _ _ aF2
          have eF3 := ex.trans (ex_same ex.pot sF3)
          have nF3 : F3 ≠ p := new_ne ex.pot hF3
          clear ex; have ex := eF3; clear eF3
          replace hd7 := dp_same (gb_same (p := p) sF3) _ _ hd7
          clear sF3
          generalize upd H7_1 F3 (.lst ((cutV xs none (some ((k : Nat) : Int))) ++ [v])) = H7_1_2 at ex aW aF1 aF2 aF3 hd7 ⊢
          refine ⟨_, rfl, _, rfl, _, _, rfl, rfl, _, rfl, R, xs, rfl, SqL.of (hR.ex ex).at_, fun F4 hF4 => ?_⟩
          have sF4 := same_new (o := .lst (cutV xs (some (((k : Nat) : Int) + 1)) none)) hF4
          have aF4 : upd H7_1_2 F4 (.lst (cutV xs (some (((k : Nat) : Int) + 1)) none)) F4 = some (.lst (cutV xs (some (((k : Nat) : Int) + 1)) none)) := upd_same
          replace aW := sF4 _ _ aW
          replace aF1 := sF4 _ _ aF1
          replace aF2 := sF4 _ _ aF2
          replace aF3 := sF4 _ _ aF3
          have eF4 := ex.trans (ex_same ex.pot sF4)
          have nF4 : F4 ≠ p := new_ne ex.pot hF4
          clear ex; have ex := eF4; clear eF4
          replace hd7 := dp_same (gb_same (p := p) sF4) _ _ hd7
          clear sF4
          generalize upd H7_1_2 F4 (.lst (cutV xs (some (((k : Nat) : Int) + 1)) none)) = H7_1_2_3 at ex aW aF1 aF2 aF3 aF4 hd7 ⊢
          refine ⟨F3, F4, _, _, rfl, rfl, aF3, aF4, by (try simp only [List.length_append, List.length_cons, List.length_nil]); omega, fun F5 hF5 => ?_⟩
          have sF5 := same_new (o := .lst (((cutV xs none (some ((k : Nat) : Int))) ++ [v]) ++ (cutV xs (some (((k : Nat) : Int) + 1)) none))) hF5
          have aF5 : upd H7_1_2_3 F5 (.lst (((cutV xs none (some ((k : Nat) : Int))) ++ [v]) ++ (cutV xs (some (((k : Nat) : Int) + 1)) none))) F5 = some (.lst (((cutV xs none (some ((k : Nat) : Int))) ++ [v]) ++ (cutV xs (some (((k : Nat) : Int) + 1)) none))) := upd_same
          replace aW := sF5 _ _ aW
          replace aF1 := sF5 _ _ aF1
          replace aF2 := sF5 _ _ aF2
          replace aF3 := sF5 _ _ aF3
          replace aF4 := sF5 _ _ aF4
          have eF5 := ex.trans (ex_same ex.pot sF5)
          have nF5 : F5 ≠ p := new_ne ex.pot hF5
          clear ex; have ex := eF5; clear eF5
          replace hd7 := dp_same (gb_same (p := p) sF5) _ _ hd7
          clear sF5
          generalize upd H7_1_2_3 F5 (.lst (((cutV xs none (some ((k : Nat) : Int))) ++ [v]) ++ (cutV xs (some (((k : Nat) : Int) + 1)) none))) = H7_1_2_3_4 at ex aW aF1 aF2 aF3 aF4 aF5 hd7 ⊢
          have RF := hR.ex ex
          have dpF := dpa_app (dpa_app (dpa_take (k := k) RF.dp) (.cons hd7 .nil)) (dpa_drop (k := k + 1) RF.dp)
          refine hQ F5 _ (((ds.take k) ++ [d]) ++ (ds.drop (k + 1))) _ ex ⟨nF5, aF5, ?_, fun d' hd => ?_⟩ ?_
          · simp only [cutV_to, cutV_from, cutV_from1, cutV_mid]
            exact dpF
          · simp only [List.mem_append, List.mem_singleton] at hd
            rcases hd with (h | rfl) | h
            · exact hR.sb _ (List.mem_of_mem_take h)
            · exact sbd
            · exact hR.sb _ (List.mem_of_mem_drop h)
          · simp only [List.length_append, List.length_take, List.length_drop, List.length_cons, List.length_nil]
            omega
        · skip
          refine ⟨_, rfl, rfl, _, rfl, ite2 (fun _ => ?_) (fun _ => ?_)⟩
          · skip
            refine ⟨_, rfl, _, rfl, _, rfl, R, xs, rfl, SqL.of (hR.ex ex).at_, fun F1 hF1 => ?_⟩
            have sF1 := same_new (o := .lst (cutV xs none (some ((k : Nat) : Int)))) hF1
            have aF1 : upd H5 F1 (.lst (cutV xs none (some ((k : Nat) : Int)))) F1 = some (.lst (cutV xs none (some ((k : Nat) : Int)))) := upd_same
            have eF1 := ex.trans (ex_same ex.pot sF1)
            have nF1 : F1 ≠ p := new_ne ex.pot hF1
            clear ex; have ex := eF1; clear eF1
            clear sF1
            generalize upd H5 F1 (.lst (cutV xs none (some ((k : Nat) : Int)))) = H5_0 at ex  aF1 ⊢
            refine ⟨_, rfl, _, rfl, _, rfl, _, rfl, _, _, rfl, rfl, _, rfl, R, xs, rfl, SqL.of (hR.ex ex).at_, fun F2 hF2 => ?_⟩
            have sF2 := same_new (o := .lst (cutV xs (some ((k : Nat) : Int)) (some (((k : Nat) : Int) + 1)))) hF2
            have aF2 : upd H5_0 F2 (.lst (cutV xs (some ((k : Nat) : Int)) (some (((k : Nat) : Int) + 1)))) F2 = some (.lst (cutV xs (some ((k : Nat) : Int)) (some (((k : Nat) : Int) + 1)))) := upd_same
            replace aF1 := sF2 _ _ aF1
            have eF2 := ex.trans (ex_same ex.pot sF2)
            have nF2 : F2 ≠ p := new_ne ex.pot hF2
            clear ex; have ex := eF2; clear eF2
            clear sF2
            generalize upd H5_0 F2 (.lst (cutV xs (some ((k : Nat) : Int)) (some (((k : Nat) : Int) + 1)))) = H5_0_1 at ex aF1 aF2 ⊢
            refine ⟨F1, F2, _, _, rfl, rfl, aF1, aF2, by (try simp only [List.length_append, List.length_cons, List.length_nil]); omega, fun F3 hF3 => ?_⟩
            have sF3 := same_new (o := .lst ((cutV xs none (some ((k : Nat) : Int))) ++ (cutV xs (some ((k : Nat) : Int)) (some (((k : Nat) : Int) + 1))))) hF3
            have aF3 : upd H5_0_1 F3 (.lst ((cutV xs none (some ((k : Nat) : Int))) ++ (cutV xs (some ((k : Nat) : Int)) (some (((k : Nat) : Int) + 1))))) F3 = some (.lst ((cutV xs none (some ((k : Nat) : Int))) ++ (cutV xs (some ((k : Nat) : Int)) (some (((k : Nat) : Int) + 1))))) := upd_same
            replace aF1 := sF3 _ _ aF1
            replace aF2 := sF3 _ _ aF2
            have eF3 := ex.trans (ex_same ex.pot sF3)
            have nF3 : F3 ≠ p := new_ne ex.pot hF3
            clear ex; have ex := eF3; clear eF3
            clear sF3
            generalize upd H5_0_1 F3 (.lst ((cutV xs none (some ((k : Nat) : Int))) ++ (cutV xs (some ((k : Nat) : Int)) (some (((k : Nat) : Int) + 1))))) = H5_0_1_2 at ex aF1 aF2 aF3 ⊢
            refine ⟨_, rfl, _, rfl, _, rfl, R, xs, rfl, SqL.of (hR.ex ex).at_, fun F4 hF4 => ?_⟩
            have sF4 := same_new (o := .lst (cutV xs (some ((k : Nat) : Int)) none)) hF4
            have aF4 : upd H5_0_1_2 F4 (.lst (cutV xs (some ((k : Nat) : Int)) none)) F4 = some (.lst (cutV xs (some ((k : Nat) : Int)) none)) := upd_same
            replace aF1 := sF4 _ _ aF1
            replace aF2 := sF4 _ _ aF2
            replace aF3 := sF4 _ _ aF3
            have eF4 := ex.trans (ex_same ex.pot sF4)
            have nF4 : F4 ≠ p := new_ne ex.pot hF4
            clear ex; have ex := eF4; clear eF4
            clear sF4
            generalize upd H5_0_1_2 F4 (.lst (cutV xs (some ((k : Nat) : Int)) none)) = H5_0_1_2_3 at ex aF1 aF2 aF3 aF4 ⊢
            refine ⟨F3, F4, _, _, rfl, rfl, aF3, aF4, by (try simp only [List.length_append, List.length_cons, List.length_nil]); omega, fun F5 hF5 => ?_⟩
            have sF5 := same_new (o := .lst (((cutV xs none (some ((k : Nat) : Int))) ++ (cutV xs (some ((k : Nat) : Int)) (some (((k : Nat) : Int) + 1)))) ++ (cutV xs (some ((k : Nat) : Int)) none))) hF5
            have aF5 : upd H5_0_1_2_3 F5 (.lst (((cutV xs none (some ((k : Nat) : Int))) ++ (cutV xs (some ((k : Nat) : Int)) (some (((k : Nat) : Int) + 1)))) ++ (cutV xs (some ((k : Nat) : Int)) none))) F5 = some (.lst (((cutV xs none (some ((k : Nat) : Int))) ++ (cutV xs (some ((k : Nat) : Int)) (some (((k : Nat) : Int) + 1)))) ++ (cutV xs (some ((k : Nat) : Int)) none))) := upd_same
            replace aF1 := sF5 _ _ aF1
            replace aF2 := sF5 _ _ aF2
            replace aF3 := sF5 _ _ aF3
            replace aF4 := sF5 _ _ aF4
            have eF5 := ex.trans (ex_same ex.pot sF5)
            have nF5 : F5 ≠ p := new_ne ex.pot hF5
            clear ex; have ex := eF5; clear eF5
            clear sF5
            generalize upd H5_0_1_2_3 F5 (.lst (((cutV xs none (some ((k : Nat) : Int))) ++ (cutV xs (some ((k : Nat) : Int)) (some (((k : Nat) : Int) + 1)))) ++ (cutV xs (some ((k : Nat) : Int)) none))) = H5_0_1_2_3_4 at ex aF1 aF2 aF3 aF4 aF5 ⊢
            have RF := hR.ex ex
            have dpF := dpa_app (dpa_app (dpa_take (k := k) RF.dp) (dpa_take (k := 1) (dpa_drop (k := k) RF.dp))) (dpa_drop (k := k) RF.dp)
            refine hQ F5 _ (((ds.take k) ++ ((ds.drop k).take 1)) ++ (ds.drop k)) _ ex ⟨nF5, aF5, ?_, fun d hd => ?_⟩ ?_
            · simp only [cutV_to, cutV_from, cutV_from1, cutV_mid]
              exact dpF
            · simp only [List.mem_append, List.mem_singleton] at hd
              exact hR.sb d (hd.elim (fun h => h.elim List.mem_of_mem_take (fun h => List.mem_of_mem_drop (List.mem_of_mem_take h))) List.mem_of_mem_drop)
            · simp only [List.length_append, List.length_take, List.length_drop, List.length_cons, List.length_nil]
              omega
          · refine ⟨_, rfl, rfl, _, rfl, ite2 (fun _ => ?_) (fun _ => ?_)⟩
            · skip
              refine ⟨_, rfl, _, rfl, _, rfl, R, xs, rfl, SqL.of (hR.ex ex).at_, fun F1 hF1 => ?_⟩
              have sF1 := same_new (o := .lst (cutV xs none (some ((k : Nat) : Int)))) hF1
              have aF1 : upd H5 F1 (.lst (cutV xs none (some ((k : Nat) : Int)))) F1 = some (.lst (cutV xs none (some ((k : Nat) : Int)))) := upd_same
              have eF1 := ex.trans (ex_same ex.pot sF1)
              have nF1 : F1 ≠ p := new_ne ex.pot hF1
              clear ex; have ex := eF1; clear eF1
              clear sF1
              generalize upd H5 F1 (.lst (cutV xs none (some ((k : Nat) : Int)))) = H5_0 at ex  aF1 ⊢
              refine ⟨_, rfl, _, rfl, _, _, rfl, rfl, _, rfl, R, xs, rfl, SqL.of (hR.ex ex).at_, fun F2 hF2 => ?_⟩
              have sF2 := same_new (o := .lst (cutV xs (some (((k : Nat) : Int) + 1)) none)) hF2
              have aF2 : upd H5_0 F2 (.lst (cutV xs (some (((k : Nat) : Int) + 1)) none)) F2 = some (.lst (cutV xs (some (((k : Nat) : Int) + 1)) none)) := upd_same
              replace aF1 := sF2 _ _ aF1
              have eF2 := ex.trans (ex_same ex.pot sF2)
              have nF2 : F2 ≠ p := new_ne ex.pot hF2
              clear ex; have ex := eF2; clear eF2
              clear sF2
              generalize upd H5_0 F2 (.lst (cutV xs (some (((k : Nat) : Int) + 1)) none)) = H5_0_1 at ex aF1 aF2 ⊢
              refine ⟨F1, F2, _, _, rfl, rfl, aF1, aF2, by (try simp only [List.length_append, List.length_cons, List.length_nil]); omega, fun F3 hF3 => ?_⟩
              have sF3 := same_new (o := .lst ((cutV xs none (some ((k : Nat) : Int))) ++ (cutV xs (some (((k : Nat) : Int) + 1)) none))) hF3
              have aF3 : upd H5_0_1 F3 (.lst ((cutV xs none (some ((k : Nat) : Int))) ++ (cutV xs (some (((k : Nat) : Int) + 1)) none))) F3 = some (.lst ((cutV xs none (some ((k : Nat) : Int))) ++ (cutV xs (some (((k : Nat) : Int) + 1)) none))) := upd_same
              replace aF1 := sF3 _ _ aF1
              replace aF2 := sF3 _ _ aF2
              have eF3 := ex.trans (ex_same ex.pot sF3)
              have nF3 : F3 ≠ p := new_ne ex.pot hF3
              clear ex; have ex := eF3; clear eF3
              clear sF3
              generalize upd H5_0_1 F3 (.lst ((cutV xs none (some ((k : Nat) : Int))) ++ (cutV xs (some (((k : Nat) : Int) + 1)) none))) = H5_0_1_2 at ex aF1 aF2 aF3 ⊢
              have RF := hR.ex ex
              have dpF := dpa_app (dpa_take (k := k) RF.dp) (dpa_drop (k := k + 1) RF.dp)
              refine hQ F3 _ ((ds.take k) ++ (ds.drop (k + 1))) _ ex ⟨nF3, aF3, ?_, fun d hd => ?_⟩ ?_
              · simp only [cutV_to, cutV_from, cutV_from1, cutV_mid]
                exact dpF
              · simp only [List.mem_append, List.mem_singleton] at hd
                exact hR.sb d (hd.elim List.mem_of_mem_take List.mem_of_mem_drop)
              · simp only [List.length_append, List.length_take, List.length_drop, List.length_cons, List.length_nil]
                omega
            · skip
              refine ⟨_, rfl, _, rfl, _, rfl, R, xs, rfl, SqL.of (hR.ex ex).at_, fun F1 hF1 => ?_⟩
              have sF1 := same_new (o := .lst (cutV xs (some ((k : Nat) : Int)) none)) hF1
              have aF1 : upd H5 F1 (.lst (cutV xs (some ((k : Nat) : Int)) none)) F1 = some (.lst (cutV xs (some ((k : Nat) : Int)) none)) := upd_same
              have eF1 := ex.trans (ex_same ex.pot sF1)
              have nF1 : F1 ≠ p := new_ne ex.pot hF1
              clear ex; have ex := eF1; clear eF1
              clear sF1
              generalize upd H5 F1 (.lst (cutV xs (some ((k : Nat) : Int)) none)) = H5_0 at ex  aF1 ⊢
              refine ⟨_, rfl, _, rfl, _, rfl, R, xs, rfl, SqL.of (hR.ex ex).at_, fun F2 hF2 => ?_⟩
              have sF2 := same_new (o := .lst (cutV xs none (some ((k : Nat) : Int)))) hF2
              have aF2 : upd H5_0 F2 (.lst (cutV xs none (some ((k : Nat) : Int)))) F2 = some (.lst (cutV xs none (some ((k : Nat) : Int)))) := upd_same
              replace aF1 := sF2 _ _ aF1
              have eF2 := ex.trans (ex_same ex.pot sF2)
              have nF2 : F2 ≠ p := new_ne ex.pot hF2
              clear ex; have ex := eF2; clear eF2
              clear sF2
              generalize upd H5_0 F2 (.lst (cutV xs none (some ((k : Nat) : Int)))) = H5_0_1 at ex aF1 aF2 ⊢
              refine ⟨F1, F2, _, _, rfl, rfl, aF1, aF2, by (try simp only [List.length_append, List.length_cons, List.length_nil]); omega, fun F3 hF3 => ?_⟩
              have sF3 := same_new (o := .lst ((cutV xs (some ((k : Nat) : Int)) none) ++ (cutV xs none (some ((k : Nat) : Int))))) hF3
              have aF3 : upd H5_0_1 F3 (.lst ((cutV xs (some ((k : Nat) : Int)) none) ++ (cutV xs none (some ((k : Nat) : Int))))) F3 = some (.lst ((cutV xs (some ((k : Nat) : Int)) none) ++ (cutV xs none (some ((k : Nat) : Int))))) := upd_same
              replace aF1 := sF3 _ _ aF1
              replace aF2 := sF3 _ _ aF2
              have eF3 := ex.trans (ex_same ex.pot sF3)
              have nF3 : F3 ≠ p := new_ne ex.pot hF3
              clear ex; have ex := eF3; clear eF3
              clear sF3
              generalize upd H5_0_1 F3 (.lst ((cutV xs (some ((k : Nat) : Int)) none) ++ (cutV xs none (some ((k : Nat) : Int))))) = H5_0_1_2 at ex aF1 aF2 aF3 ⊢
              have RF := hR.ex ex
              have dpF := dpa_app (dpa_drop (k := k) RF.dp) (dpa_take (k := k) RF.dp)
              refine hQ F3 _ ((ds.drop k) ++ (ds.take k)) _ ex ⟨nF3, aF3, ?_, fun d hd => ?_⟩ ?_
              · simp only [cutV_to, cutV_from, cutV_from1, cutV_mid]
                exact dpF
              · simp only [List.mem_append, List.mem_singleton] at hd
                exact hR.sb d (hd.elim List.mem_of_mem_drop List.mem_of_mem_take)
              · simp only [List.length_append, List.length_take, List.length_drop, List.length_cons, List.length_nil]
                omega
    · skip
      have ex := ex3.trans (ex_same ex3.pot e4)
      by_cases hw : way = 0
      · refine ⟨_, rfl, rfl, _, rfl, iteY (decide_eq_true (by rw [hw])) ⟨_, rfl, rfl, _, rfl, iteN rfl ?_⟩⟩
        refine ⟨_, rfl, Nat.zero_le _, fun E0 hE0 => ⟨.list ds, .list [], ?_⟩⟩
        have sE := same_new (o := .lst []) hE0
        have eE := ex.trans (ex_same ex.pot sE)
        have aE : upd H4 E0 (.lst []) E0 = some (.lst []) := upd_same
        clear ex; have ex := eE; clear eE
        skip
        clear sE
        generalize upd H4 E0 (.lst []) = H5 at ex aE ⊢
        have RE := hR.ex ex
        refine ⟨.lst (SqL.of RE.at_) (dpa_same gb_gnd.same _ _ RE.dp), .lst (SqL.of aE) .nil, shD, shN, _, rfl, ite2 (fun _ => ?_) (fun _ => ?_)⟩
        · skip
          refine ⟨_, rfl, _, rfl, _, rfl, R, xs, rfl, SqL.of (hR.ex ex).at_, fun F1 hF1 => ?_⟩
          have sF1 := same_new (o := .lst (cutV xs none (some ((k : Nat) : Int)))) hF1
          have aF1 : upd H5 F1 (.lst (cutV xs none (some ((k : Nat) : Int)))) F1 = some (.lst (cutV xs none (some ((k : Nat) : Int)))) := upd_same
          have eF1 := ex.trans (ex_same ex.pot sF1)
          have nF1 : F1 ≠ p := new_ne ex.pot hF1
          clear ex; have ex := eF1; clear eF1
          clear sF1
          generalize upd H5 F1 (.lst (cutV xs none (some ((k : Nat) : Int)))) = H5_0 at ex  aF1 ⊢
          refine ⟨_, rfl, _, rfl, rfl, _, rfl, iteY rfl ⟨_, rfl, p, u, rfl, ex.pot, su, by omega, fun v d H7 ex7 hd7 sbd => ⟨one, ?_⟩⟩⟩
          replace aF1 := ex7.keep _ _ nF1 aF1
          have e7 := ex.trans ex7; clear ex; have ex := e7; clear e7
          refine fun F2 hF2 => ?_
          have sF2 := same_new (o := .lst ([v])) hF2
          have aF2 : upd H7 F2 (.lst ([v])) F2 = some (.lst ([v])) := upd_same
          replace aF1 := sF2 _ _ aF1
          have eF2 := ex.trans (ex_same ex.pot sF2)
          have nF2 : F2 ≠ p := new_ne ex.pot hF2
          clear ex; have ex := eF2; clear eF2
          replace hd7 := dp_same (gb_same (p := p) sF2) _ _ hd7
          clear sF2
          generalize upd H7 F2 (.lst ([v])) = H7_1 at ex aF1 aF2 hd7 ⊢
          refine ⟨F1, F2, _, _, rfl, rfl, aF1, aF2, by (try simp only [List.length_append, List.length_cons, List.length_nil]); omega, fun F3 hF3 => ?_⟩
          have sF3 := same_new (o := .lst ((cutV xs none (some ((k : Nat) : Int))) ++ [v])) hF3
          have aF3 : upd H7_1 F3 (.lst ((cutV xs none (some ((k : Nat) : Int))) ++ [v])) F3 = some (.lst ((cutV xs none (some ((k : Nat) : Int))) ++ [v])) := upd_same
          replace aF1 := sF3 _ _ aF1
          replace aF2 := sF3 _ _ aF2
          have eF3 := ex.trans (ex_same ex.pot sF3)
          have nF3 : F3 ≠ p := new_ne ex.pot hF3
          clear ex; have ex := eF3; clear eF3
          replace hd7 := dp_same (gb_same (p := p) sF3) _ _ hd7
          clear sF3
          generalize upd H7_1 F3 (.lst ((cutV xs none (some ((k : Nat) : Int))) ++ [v])) = H7_1_2 at ex aF1 aF2 aF3 hd7 ⊢
          refine ⟨_, rfl, _, rfl, _, _, rfl, rfl, _, rfl, R, xs, rfl, SqL.of (hR.ex ex).at_, fun F4 hF4 => ?_⟩
          have sF4 := same_new (o := .lst (cutV xs (some (((k : Nat) : Int) + 1)) none)) hF4
          have aF4 : upd H7_1_2 F4 (.lst (cutV xs (some (((k : Nat) : Int) + 1)) none)) F4 = some (.lst (cutV xs (some (((k : Nat) : Int) + 1)) none)) := upd_same
          replace aF1 := sF4 _ _ aF1
          replace aF2 := sF4 _ _ aF2
          replace aF3 := sF4 _ _ aF3
          have eF4 := ex.trans (ex_same ex.pot sF4)
          have nF4 : F4 ≠ p := new_ne ex.pot hF4
          clear ex; have ex := eF4; clear eF4
          replace hd7 := dp_same (gb_same (p := p) sF4) _ _ hd7
          clear sF4
          generalize upd H7_1_2 F4 (.lst (cutV xs (some (((k : Nat) : Int) + 1)) none)) = H7_1_2_3 at ex aF1 aF2 aF3 aF4 hd7 ⊢
          refine ⟨F3, F4, _, _, rfl, rfl, aF3, aF4, by (try simp only [List.length_append, List.length_cons, List.length_nil]); omega, fun F5 hF5 => ?_⟩
          have sF5 := same_new (o := .lst (((cutV xs none (some ((k : Nat) : Int))) ++ [v]) ++ (cutV xs (some (((k : Nat) : Int) + 1)) none))) hF5
          have aF5 : upd H7_1_2_3 F5 (.lst (((cutV xs none (some ((k : Nat) : Int))) ++ [v]) ++ (cutV xs (some (((k : Nat) : Int) + 1)) none))) F5 = some (.lst (((cutV xs none (some ((k : Nat) : Int))) ++ [v]) ++ (cutV xs (some (((k : Nat) : Int) + 1)) none))) := upd_same
          replace aF1 := sF5 _ _ aF1
          replace aF2 := sF5 _ _ aF2
          replace aF3 := sF5 _ _ aF3
          replace aF4 := sF5 _ _ aF4
          have eF5 := ex.trans (ex_same ex.pot sF5)
          have nF5 : F5 ≠ p := new_ne ex.pot hF5
          clear ex; have ex := eF5; clear eF5
          replace hd7 := dp_same (gb_same (p := p) sF5) _ _ hd7
          clear sF5
          generalize upd H7_1_2_3 F5 (.lst (((cutV xs none (some ((k : Nat) : Int))) ++ [v]) ++ (cutV xs (some (((k : Nat) : Int) + 1)) none))) = H7_1_2_3_4 at ex aF1 aF2 aF3 aF4 aF5 hd7 ⊢
          have RF := hR.ex ex
          have dpF := dpa_app (dpa_app (dpa_take (k := k) RF.dp) (.cons hd7 .nil)) (dpa_drop (k := k + 1) RF.dp)
          refine hQ F5 _ (((ds.take k) ++ [d]) ++ (ds.drop (k + 1))) _ ex ⟨nF5, aF5, ?_, fun d' hd => ?_⟩ ?_
          · simp only [cutV_to, cutV_from, cutV_from1, cutV_mid]
            exact dpF
          · simp only [List.mem_append, List.mem_singleton] at hd
            rcases hd with (h | rfl) | h
            · exact hR.sb _ (List.mem_of_mem_take h)
            · exact sbd
            · exact hR.sb _ (List.mem_of_mem_drop h)
          · simp only [List.length_append, List.length_take, List.length_drop, List.length_cons, List.length_nil]
            omega
        · skip
          refine ⟨_, rfl, rfl, _, rfl, ite2 (fun _ => ?_) (fun _ => ?_)⟩
          · skip
            refine ⟨_, rfl, _, rfl, _, rfl, R, xs, rfl, SqL.of (hR.ex ex).at_, fun F1 hF1 => ?_⟩
            have sF1 := same_new (o := .lst (cutV xs none (some ((k : Nat) : Int)))) hF1
            have aF1 : upd H5 F1 (.lst (cutV xs none (some ((k : Nat) : Int)))) F1 = some (.lst (cutV xs none (some ((k : Nat) : Int)))) := upd_same
            have eF1 := ex.trans (ex_same ex.pot sF1)
            have nF1 : F1 ≠ p := new_ne ex.pot hF1
            clear ex; have ex := eF1; clear eF1
            clear sF1
            generalize upd H5 F1 (.lst (cutV xs none (some ((k : Nat) : Int)))) = H5_0 at ex  aF1 ⊢
            refine ⟨_, rfl, _, rfl, _, rfl, _, rfl, _, _, rfl, rfl, _, rfl, R, xs, rfl, SqL.of (hR.ex ex).at_, fun F2 hF2 => ?_⟩
            have sF2 := same_new (o := .lst (cutV xs (some ((k : Nat) : Int)) (some (((k : Nat) : Int) + 1)))) hF2
            have aF2 : upd H5_0 F2 (.lst (cutV xs (some ((k : Nat) : Int)) (some (((k : Nat) : Int) + 1)))) F2 = some (.lst (cutV xs (some ((k : Nat) : Int)) (some (((k : Nat) : Int) + 1)))) := upd_same
            replace aF1 := sF2 _ _ aF1
            have eF2 := ex.trans (ex_same ex.pot sF2)
            have nF2 : F2 ≠ p := new_ne ex.pot hF2
            clear ex; have ex := eF2; clear eF2
            clear sF2
            generalize upd H5_0 F2 (.lst (cutV xs (some ((k : Nat) : Int)) (some (((k : Nat) : Int) + 1)))) = H5_0_1 at ex aF1 aF2 ⊢
            refine ⟨F1, F2, _, _, rfl, rfl, aF1, aF2, by (try simp only [List.length_append, List.length_cons, List.length_nil]); omega, fun F3 hF3 => ?_⟩
            have sF3 := same_new (o := .lst ((cutV xs none (some ((k : Nat) : Int))) ++ (cutV xs (some ((k : Nat) : Int)) (some (((k : Nat) : Int) + 1))))) hF3
            have aF3 : upd H5_0_1 F3 (.lst ((cutV xs none (some ((k : Nat) : Int))) ++ (cutV xs (some ((k : Nat) : Int)) (some (((k : Nat) : Int) + 1))))) F3 = some (.lst ((cutV xs none (some ((k : Nat) : Int))) ++ (cutV xs (some ((k : Nat) : Int)) (some (((k : Nat) : Int) + 1))))) := upd_same
            replace aF1 := sF3 _ _ aF1
            replace aF2 := sF3 _ _ aF2
            have eF3 := ex.trans (ex_same ex.pot sF3)
            have nF3 : F3 ≠ p := new_ne ex.pot hF3
            clear ex; have ex := eF3; clear eF3
            clear sF3
            generalize upd H5_0_1 F3 (.lst ((cutV xs none (some ((k : Nat) : Int))) ++ (cutV xs (some ((k : Nat) : Int)) (some (((k : Nat) : Int) + 1))))) = H5_0_1_2 at ex aF1 aF2 aF3 ⊢
            refine ⟨_, rfl, _, rfl, _, rfl, R, xs, rfl, SqL.of (hR.ex ex).at_, fun F4 hF4 => ?_⟩
            have sF4 := same_new (o := .lst (cutV xs (some ((k : Nat) : Int)) none)) hF4
            have aF4 : upd H5_0_1_2 F4 (.lst (cutV xs (some ((k : Nat) : Int)) none)) F4 = some (.lst (cutV xs (some ((k : Nat) : Int)) none)) := upd_same
            replace aF1 := sF4 _ _ aF1
            replace aF2 := sF4 _ _ aF2
            replace aF3 := sF4 _ _ aF3
            have eF4 := ex.trans (ex_same ex.pot sF4)
            have nF4 : F4 ≠ p := new_ne ex.pot hF4
            clear ex; have ex := eF4; clear eF4
            clear sF4
            generalize upd H5_0_1_2 F4 (.lst (cutV xs (some ((k : Nat) : Int)) none)) = H5_0_1_2_3 at ex aF1 aF2 aF3 aF4 ⊢
            refine ⟨F3, F4, _, _, rfl, rfl, aF3, aF4, by (try simp only [List.length_append, List.length_cons, List.length_nil]); omega, fun F5 hF5 => ?_⟩
            have sF5 := same_new (o := .lst (((cutV xs none (some ((k : Nat) : Int))) ++ (cutV xs (some ((k : Nat) : Int)) (some (((k : Nat) : Int) + 1)))) ++ (cutV xs (some ((k : Nat) : Int)) none))) hF5
            have aF5 : upd H5_0_1_2_3 F5 (.lst (((cutV xs none (some ((k : Nat) : Int))) ++ (cutV xs (some ((k : Nat) : Int)) (some (((k : Nat) : Int) + 1)))) ++ (cutV xs (some ((k : Nat) : Int)) none))) F5 = some (.lst (((cutV xs none (some ((k : Nat) : Int))) ++ (cutV xs (some ((k : Nat) : Int)) (some (((k : Nat) : Int) + 1)))) ++ (cutV xs (some ((k : Nat) : Int)) none))) := upd_same
            replace aF1 := sF5 _ _ aF1
            replace aF2 := sF5 _ _ aF2
            replace aF3 := sF5 _ _ aF3
            replace aF4 := sF5 _ _ aF4
            have eF5 := ex.trans (ex_same ex.pot sF5)
            have nF5 : F5 ≠ p := new_ne ex.pot hF5
            clear ex; have ex := eF5; clear eF5
            clear sF5
            generalize upd H5_0_1_2_3 F5 (.lst (((cutV xs none (some ((k : Nat) : Int))) ++ (cutV xs (some ((k : Nat) : Int)) (some (((k : Nat) : Int) + 1)))) ++ (cutV xs (some ((k : Nat) : Int)) none))) = H5_0_1_2_3_4 at ex aF1 aF2 aF3 aF4 aF5 ⊢
            have RF := hR.ex ex
            have dpF := dpa_app (dpa_app (dpa_take (k := k) RF.dp) (dpa_take (k := 1) (dpa_drop (k := k) RF.dp))) (dpa_drop (k := k) RF.dp)
            refine hQ F5 _ (((ds.take k) ++ ((ds.drop k).take 1)) ++ (ds.drop k)) _ ex ⟨nF5, aF5, ?_, fun d hd => ?_⟩ ?_
            · simp only [cutV_to, cutV_from, cutV_from1, cutV_mid]
              exact dpF
            · simp only [List.mem_append, List.mem_singleton] at hd
              exact hR.sb d (hd.elim (fun h => h.elim List.mem_of_mem_take (fun h => List.mem_of_mem_drop (List.mem_of_mem_take h))) List.mem_of_mem_drop)
            · simp only [List.length_append, List.length_take, List.length_drop, List.length_cons, List.length_nil]
              omega
          · refine ⟨_, rfl, rfl, _, rfl, ite2 (fun _ => ?_) (fun _ => ?_)⟩
            · skip
              refine ⟨_, rfl, _, rfl, _, rfl, R, xs, rfl, SqL.of (hR.ex ex).at_, fun F1 hF1 => ?_⟩
              have sF1 := same_new (o := .lst (cutV xs none (some ((k : Nat) : Int)))) hF1
              have aF1 : upd H5 F1 (.lst (cutV xs none (some ((k : Nat) : Int)))) F1 = some (.lst (cutV xs none (some ((k : Nat) : Int)))) := upd_same
              have eF1 := ex.trans (ex_same ex.pot sF1)
              have nF1 : F1 ≠ p := new_ne ex.pot hF1
              clear ex; have ex := eF1; clear eF1
              clear sF1
              generalize upd H5 F1 (.lst (cutV xs none (some ((k : Nat) : Int)))) = H5_0 at ex  aF1 ⊢
              refine ⟨_, rfl, _, rfl, _, _, rfl, rfl, _, rfl, R, xs, rfl, SqL.of (hR.ex ex).at_, fun F2 hF2 => ?_⟩
              have sF2 := same_new (o := .lst (cutV xs (some (((k : Nat) : Int) + 1)) none)) hF2
              have aF2 : upd H5_0 F2 (.lst (cutV xs (some (((k : Nat) : Int) + 1)) none)) F2 = some (.lst (cutV xs (some (((k : Nat) : Int) + 1)) none)) := upd_same
              replace aF1 := sF2 _ _ aF1
              have eF2 := ex.trans (ex_same ex.pot sF2)
              have nF2 : F2 ≠ p := new_ne ex.pot hF2
              clear ex; have ex := eF2; clear eF2
              clear sF2
              generalize upd H5_0 F2 (.lst (cutV xs (some (((k : Nat) : Int) + 1)) none)) = H5_0_1 at ex aF1 aF2 ⊢
              refine ⟨F1, F2, _, _, rfl, rfl, aF1, aF2, by (try simp only [List.length_append, List.length_cons, List.length_nil]); omega, fun F3 hF3 => ?_⟩
              have sF3 := same_new (o := .lst ((cutV xs none (some ((k : Nat) : Int))) ++ (cutV xs (some (((k : Nat) : Int) + 1)) none))) hF3
              have aF3 : upd H5_0_1 F3 (.lst ((cutV xs none (some ((k : Nat) : Int))) ++ (cutV xs (some (((k : Nat) : Int) + 1)) none))) F3 = some (.lst ((cutV xs none (some ((k : Nat) : Int))) ++ (cutV xs (some (((k : Nat) : Int) + 1)) none))) := upd_same
              replace aF1 := sF3 _ _ aF1
              replace aF2 := sF3 _ _ aF2
              have eF3 := ex.trans (ex_same ex.pot sF3)
              have nF3 : F3 ≠ p := new_ne ex.pot hF3
              clear ex; have ex := eF3; clear eF3
              clear sF3
              generalize upd H5_0_1 F3 (.lst ((cutV xs none (some ((k : Nat) : Int))) ++ (cutV xs (some (((k : Nat) : Int) + 1)) none))) = H5_0_1_2 at ex aF1 aF2 aF3 ⊢
              have RF := hR.ex ex
              have dpF := dpa_app (dpa_take (k := k) RF.dp) (dpa_drop (k := k + 1) RF.dp)
              refine hQ F3 _ ((ds.take k) ++ (ds.drop (k + 1))) _ ex ⟨nF3, aF3, ?_, fun d hd => ?_⟩ ?_
              · simp only [cutV_to, cutV_from, cutV_from1, cutV_mid]
                exact dpF
              · simp only [List.mem_append, List.mem_singleton] at hd
                exact hR.sb d (hd.elim List.mem_of_mem_take List.mem_of_mem_drop)
              · simp only [List.length_append, List.length_take, List.length_drop, List.length_cons, List.length_nil]
                omega
            · skip
              refine ⟨_, rfl, _, rfl, _, rfl, R, xs, rfl, SqL.of (hR.ex ex).at_, fun F1 hF1 => ?_⟩
              have sF1 := same_new (o := .lst (cutV xs (some ((k : Nat) : Int)) none)) hF1
              have aF1 : upd H5 F1 (.lst (cutV xs (some ((k : Nat) : Int)) none)) F1 = some (.lst (cutV xs (some ((k : Nat) : Int)) none)) := upd_same
              have eF1 := ex.trans (ex_same ex.pot sF1)
              have nF1 : F1 ≠ p := new_ne ex.pot hF1
              clear ex; have ex := eF1; clear eF1
              clear sF1
              generalize upd H5 F1 (.lst (cutV xs (some ((k : Nat) : Int)) none)) = H5_0 at ex  aF1 ⊢
              refine ⟨_, rfl, _, rfl, _, rfl, R, xs, rfl, SqL.of (hR.ex ex).at_, fun F2 hF2 => ?_⟩
              have sF2 := same_new (o := .lst (cutV xs none (some ((k : Nat) : Int)))) hF2
              have aF2 : upd H5_0 F2 (.lst (cutV xs none (some ((k : Nat) : Int)))) F2 = some (.lst (cutV xs none (some ((k : Nat) : Int)))) := upd_same
              replace aF1 := sF2 _ _ aF1
              have eF2 := ex.trans (ex_same ex.pot sF2)
              have nF2 : F2 ≠ p := new_ne ex.pot hF2
              clear ex; have ex := eF2; clear eF2
              clear sF2
              generalize upd H5_0 F2 (.lst (cutV xs none (some ((k : Nat) : Int)))) = H5_0_1 at ex aF1 aF2 ⊢
              refine ⟨F1, F2, _, _, rfl, rfl, aF1, aF2, by (try simp only [List.length_append, List.length_cons, List.length_nil]); omega, fun F3 hF3 => ?_⟩
              have sF3 := same_new (o := .lst ((cutV xs (some ((k : Nat) : Int)) none) ++ (cutV xs none (some ((k : Nat) : Int))))) hF3
              have aF3 : upd H5_0_1 F3 (.lst ((cutV xs (some ((k : Nat) : Int)) none) ++ (cutV xs none (some ((k : Nat) : Int))))) F3 = some (.lst ((cutV xs (some ((k : Nat) : Int)) none) ++ (cutV xs none (some ((k : Nat) : Int))))) := upd_same
              replace aF1 := sF3 _ _ aF1
              replace aF2 := sF3 _ _ aF2
              have eF3 := ex.trans (ex_same ex.pot sF3)
              have nF3 : F3 ≠ p := new_ne ex.pot hF3
              clear ex; have ex := eF3; clear eF3
              clear sF3
              generalize upd H5_0_1 F3 (.lst ((cutV xs (some ((k : Nat) : Int)) none) ++ (cutV xs none (some ((k : Nat) : Int))))) = H5_0_1_2 at ex aF1 aF2 aF3 ⊢
              have RF := hR.ex ex
              have dpF := dpa_app (dpa_drop (k := k) RF.dp) (dpa_take (k := k) RF.dp)
              refine hQ F3 _ ((ds.drop k) ++ (ds.take k)) _ ex ⟨nF3, aF3, ?_, fun d hd => ?_⟩ ?_
              · simp only [cutV_to, cutV_from, cutV_from1, cutV_mid]
                exact dpF
              · simp only [List.mem_append, List.mem_singleton] at hd
                exact hR.sb d (hd.elim List.mem_of_mem_drop List.mem_of_mem_take)
              · simp only [List.length_append, List.length_take, List.length_drop, List.length_cons, List.length_nil]
                omega
      · refine ⟨_, rfl, rfl, _, rfl, iteN (decide_eq_false fun e => by injection e with e; exact hw e) ?_⟩
        refine ⟨_, rfl, Nat.zero_le _, fun E0 hE0 => ⟨.list ds, .list [], ?_⟩⟩
        have sE := same_new (o := .lst []) hE0
        have eE := ex.trans (ex_same ex.pot sE)
        have aE : upd H4 E0 (.lst []) E0 = some (.lst []) := upd_same
        clear ex; have ex := eE; clear eE
        skip
        clear sE
        generalize upd H4 E0 (.lst []) = H5 at ex aE ⊢
        have RE := hR.ex ex
        refine ⟨.lst (SqL.of RE.at_) (dpa_same gb_gnd.same _ _ RE.dp), .lst (SqL.of aE) .nil, shD, shN, _, rfl, ite2 (fun _ => ?_) (fun _ => ?_)⟩
        · skip
          refine ⟨_, rfl, _, rfl, _, rfl, R, xs, rfl, SqL.of (hR.ex ex).at_, fun F1 hF1 => ?_⟩
          have sF1 := same_new (o := .lst (cutV xs none (some ((k : Nat) : Int)))) hF1
          have aF1 : upd H5 F1 (.lst (cutV xs none (some ((k : Nat) : Int)))) F1 = some (.lst (cutV xs none (some ((k : Nat) : Int)))) := upd_same
          have eF1 := ex.trans (ex_same ex.pot sF1)
          have nF1 : F1 ≠ p := new_ne ex.pot hF1
          clear ex; have ex := eF1; clear eF1
          clear sF1
          generalize upd H5 F1 (.lst (cutV xs none (some ((k : Nat) : Int)))) = H5_0 at ex  aF1 ⊢
          refine ⟨_, rfl, _, rfl, rfl, _, rfl, iteY rfl ⟨_, rfl, p, u, rfl, ex.pot, su, by omega, fun v d H7 ex7 hd7 sbd => ⟨one, ?_⟩⟩⟩
          replace aF1 := ex7.keep _ _ nF1 aF1
          have e7 := ex.trans ex7; clear ex; have ex := e7; clear e7
          refine fun F2 hF2 => ?_
          have sF2 := same_new (o := .lst ([v])) hF2
          have aF2 : upd H7 F2 (.lst ([v])) F2 = some (.lst ([v])) := upd_same
          replace aF1 := sF2 _ _ aF1
          have eF2 := ex.trans (ex_same ex.pot sF2)
          have nF2 : F2 ≠ p := new_ne ex.pot hF2
          clear ex; have ex := eF2; clear eF2
          replace hd7 := dp_same (gb_same (p := p) sF2) _ _ hd7
          clear sF2
          generalize upd H7 F2 (.lst ([v])) = H7_1 at ex aF1 aF2 hd7 ⊢
          refine ⟨F1, F2, _, _, rfl, rfl, aF1, aF2, by (try simp only [List.length_append, List.length_cons, List.length_nil]); omega, fun F3 hF3 => ?_⟩
          have sF3 := same_new (o := .lst ((cutV xs none (some ((k : Nat) : Int))) ++ [v])) hF3
          have aF3 : upd H7_1 F3 (.lst ((cutV xs none (some ((k : Nat) : Int))) ++ [v])) F3 = some (.lst ((cutV xs none (some ((k : Nat) : Int))) ++ [v])) := upd_same
          replace aF1 := sF3 _ _ aF1
          replace aF2 := sF3 _ _ aF2
          have eF3 := ex.trans (ex_same ex.pot sF3)
          have nF3 : F3 ≠ p := new_ne ex.pot hF3
          clear ex; have ex := eF3; clear eF3
          replace hd7 := dp_same (gb_same (p := p) sF3) _ _ hd7
          clear sF3
          generalize upd H7_1 F3 (.lst ((cutV xs none (some ((k : Nat) : Int))) ++ [v])) = H7_1_2 at ex aF1 aF2 aF3 hd7 ⊢
          refine ⟨_, rfl, _, rfl, _, _, rfl, rfl, _, rfl, R, xs, rfl, SqL.of (hR.ex ex).at_, fun F4 hF4 => ?_⟩
          have sF4 := same_new (o := .lst (cutV xs (some (((k : Nat) : Int) + 1)) none)) hF4
          have aF4 : upd H7_1_2 F4 (.lst (cutV xs (some (((k : Nat) : Int) + 1)) none)) F4 = some (.lst (cutV xs (some (((k : Nat) : Int) + 1)) none)) := upd_same
          replace aF1 := sF4 _ _ aF1
          replace aF2 := sF4 _ _ aF2
          replace aF3 := sF4 _ _ aF3
          have eF4 := ex.trans (ex_same ex.pot sF4)
          have nF4 : F4 ≠ p := new_ne ex.pot hF4
          clear ex; have ex := eF4; clear eF4
          replace hd7 := dp_same (gb_same (p := p) sF4) _ _ hd7
          clear sF4
          generalize upd H7_1_2 F4 (.lst (cutV xs (some (((k : Nat) : Int) + 1)) none)) = H7_1_2_3 at ex aF1 aF2 aF3 aF4 hd7 ⊢
          refine ⟨F3, F4, _, _, rfl, rfl, aF3, aF4, by (try simp only [List.length_append, List.length_cons, List.length_nil]); omega, fun F5 hF5 => ?_⟩
          have sF5 := same_new (o := .lst (((cutV xs none (some ((k : Nat) : Int))) ++ [v]) ++ (cutV xs (some (((k : Nat) : Int) + 1)) none))) hF5
          have aF5 : upd H7_1_2_3 F5 (.lst (((cutV xs none (some ((k : Nat) : Int))) ++ [v]) ++ (cutV xs (some (((k : Nat) : Int) + 1)) none))) F5 = some (.lst (((cutV xs none (some ((k : Nat) : Int))) ++ [v]) ++ (cutV xs (some (((k : Nat) : Int) + 1)) none))) := upd_same
          replace aF1 := sF5 _ _ aF1
          replace aF2 := sF5 _ _ aF2
          replace aF3 := sF5 _ _ aF3
          replace aF4 := sF5 _ _ aF4
          have eF5 := ex.trans (ex_same ex.pot sF5)
          have nF5 : F5 ≠ p := new_ne ex.pot hF5
          clear ex; have ex := eF5; clear eF5
          replace hd7 := dp_same (gb_same (p := p) sF5) _ _ hd7
          clear sF5
          generalize upd H7_1_2_3 F5 (.lst (((cutV xs none (some ((k : Nat) : Int))) ++ [v]) ++ (cutV xs (some (((k : Nat) : Int) + 1)) none))) = H7_1_2_3_4 at ex aF1 aF2 aF3 aF4 aF5 hd7 ⊢
          have RF := hR.ex ex
          have dpF := dpa_app (dpa_app (dpa_take (k := k) RF.dp) (.cons hd7 .nil)) (dpa_drop (k := k + 1) RF.dp)
          refine hQ F5 _ (((ds.take k) ++ [d]) ++ (ds.drop (k + 1))) _ ex ⟨nF5, aF5, ?_, fun d' hd => ?_⟩ ?_
          · simp only [cutV_to, cutV_from, cutV_from1, cutV_mid]
            exact dpF
          · simp only [List.mem_append, List.mem_singleton] at hd
            rcases hd with (h | rfl) | h
            · exact hR.sb _ (List.mem_of_mem_take h)
            · exact sbd
            · exact hR.sb _ (List.mem_of_mem_drop h)
          · simp only [List.length_append, List.length_take, List.length_drop, List.length_cons, List.length_nil]
            omega
        · skip
          refine ⟨_, rfl, rfl, _, rfl, ite2 (fun _ => ?_) (fun _ => ?_)⟩
          · skip
            refine ⟨_, rfl, _, rfl, _, rfl, R, xs, rfl, SqL.of (hR.ex ex).at_, fun F1 hF1 => ?_⟩
            have sF1 := same_new (o := .lst (cutV xs none (some ((k : Nat) : Int)))) hF1
            have aF1 : upd H5 F1 (.lst (cutV xs none (some ((k : Nat) : Int)))) F1 = some (.lst (cutV xs none (some ((k : Nat) : Int)))) := upd_same
            have eF1 := ex.trans (ex_same ex.pot sF1)
            have nF1 : F1 ≠ p := new_ne ex.pot hF1
            clear ex; have ex := eF1; clear eF1
            clear sF1
            generalize upd H5 F1 (.lst (cutV xs none (some ((k : Nat) : Int)))) = H5_0 at ex  aF1 ⊢
            refine ⟨_, rfl, _, rfl, _, rfl, _, rfl, _, _, rfl, rfl, _, rfl, R, xs, rfl, SqL.of (hR.ex ex).at_, fun F2 hF2 => ?_⟩
            have sF2 := same_new (o := .lst (cutV xs (some ((k : Nat) : Int)) (some (((k : Nat) : Int) + 1)))) hF2
            have aF2 : upd H5_0 F2 (.lst (cutV xs (some ((k : Nat) : Int)) (some (((k : Nat) : Int) + 1)))) F2 = some (.lst (cutV xs (some ((k : Nat) : Int)) (some (((k : Nat) : Int) + 1)))) := upd_same
            replace aF1 := sF2 _ _ aF1
            have eF2 := ex.trans (ex_same ex.pot sF2)
            have nF2 : F2 ≠ p := new_ne ex.pot hF2
            clear ex; have ex := eF2; clear eF2
            clear sF2
            generalize upd H5_0 F2 (.lst (cutV xs (some ((k : Nat) : Int)) (some (((k : Nat) : Int) + 1)))) = H5_0_1 at ex aF1 aF2 ⊢
            refine ⟨F1, F2, _, _, rfl, rfl, aF1, aF2, by (try simp only [List.length_append, List.length_cons, List.length_nil]); omega, fun F3 hF3 => ?_⟩
            have sF3 := same_new (o := .lst ((cutV xs none (some ((k : Nat) : Int))) ++ (cutV xs (some ((k : Nat) : Int)) (some (((k : Nat) : Int) + 1))))) hF3
            have aF3 : upd H5_0_1 F3 (.lst ((cutV xs none (some ((k : Nat) : Int))) ++ (cutV xs (some ((k : Nat) : Int)) (some (((k : Nat) : Int) + 1))))) F3 = some (.lst ((cutV xs none (some ((k : Nat) : Int))) ++ (cutV xs (some ((k : Nat) : Int)) (some (((k : Nat) : Int) + 1))))) := upd_same
            replace aF1 := sF3 _ _ aF1
            replace aF2 := sF3 _ _ aF2
            have eF3 := ex.trans (ex_same ex.pot sF3)
            have nF3 : F3 ≠ p := new_ne ex.pot hF3
            clear ex; have ex := eF3; clear eF3
            clear sF3
            generalize upd H5_0_1 F3 (.lst ((cutV xs none (some ((k : Nat) : Int))) ++ (cutV xs (some ((k : Nat) : Int)) (some (((k : Nat) : Int) + 1))))) = H5_0_1_2 at ex aF1 aF2 aF3 ⊢
            refine ⟨_, rfl, _, rfl, _, rfl, R, xs, rfl, SqL.of (hR.ex ex).at_, fun F4 hF4 => ?_⟩
            have sF4 := same_new (o := .lst (cutV xs (some ((k : Nat) : Int)) none)) hF4
            have aF4 : upd H5_0_1_2 F4 (.lst (cutV xs (some ((k : Nat) : Int)) none)) F4 = some (.lst (cutV xs (some ((k : Nat) : Int)) none)) := upd_same
            replace aF1 := sF4 _ _ aF1
            replace aF2 := sF4 _ _ aF2
            replace aF3 := sF4 _ _ aF3
            have eF4 := ex.trans (ex_same ex.pot sF4)
            have nF4 : F4 ≠ p := new_ne ex.pot hF4
            clear ex; have ex := eF4; clear eF4
            clear sF4
            generalize upd H5_0_1_2 F4 (.lst (cutV xs (some ((k : Nat) : Int)) none)) = H5_0_1_2_3 at ex aF1 aF2 aF3 aF4 ⊢
            refine ⟨F3, F4, _, _, rfl, rfl, aF3, aF4, by (try simp only [List.length_append, List.length_cons, List.length_nil]); omega, fun F5 hF5 => ?_⟩
            have sF5 := same_new (o := .lst (((cutV xs none (some ((k : Nat) : Int))) ++ (cutV xs (some ((k : Nat) : Int)) (some (((k : Nat) : Int) + 1)))) ++ (cutV xs (some ((k : Nat) : Int)) none))) hF5
            have aF5 : upd H5_0_1_2_3 F5 (.lst (((cutV xs none (some ((k : Nat) : Int))) ++ (cutV xs (some ((k : Nat) : Int)) (some (((k : Nat) : Int) + 1)))) ++ (cutV xs (some ((k : Nat) : Int)) none))) F5 = some (.lst (((cutV xs none (some ((k : Nat) : Int))) ++ (cutV xs (some ((k : Nat) : Int)) (some (((k : Nat) : Int) + 1)))) ++ (cutV xs (some ((k : Nat) : Int)) none))) := upd_same
            replace aF1 := sF5 _ _ aF1
            replace aF2 := sF5 _ _ aF2
            replace aF3 := sF5 _ _ aF3
            replace aF4 := sF5 _ _ aF4
            have eF5 := ex.trans (ex_same ex.pot sF5)
            have nF5 : F5 ≠ p := new_ne ex.pot hF5
            clear ex; have ex := eF5; clear eF5
            clear sF5
            generalize upd H5_0_1_2_3 F5 (.lst (((cutV xs none (some ((k : Nat) : Int))) ++ (cutV xs (some ((k : Nat) : Int)) (some (((k : Nat) : Int) + 1)))) ++ (cutV xs (some ((k : Nat) : Int)) none))) = H5_0_1_2_3_4 at ex aF1 aF2 aF3 aF4 aF5 ⊢
            have RF := hR.ex ex
            have dpF := dpa_app (dpa_app (dpa_take (k := k) RF.dp) (dpa_take (k := 1) (dpa_drop (k := k) RF.dp))) (dpa_drop (k := k) RF.dp)
            refine hQ F5 _ (((ds.take k) ++ ((ds.drop k).take 1)) ++ (ds.drop k)) _ ex ⟨nF5, aF5, ?_, fun d hd => ?_⟩ ?_
            · simp only [cutV_to, cutV_from, cutV_from1, cutV_mid]
              exact dpF
            · simp only [List.mem_append, List.mem_singleton] at hd
              exact hR.sb d (hd.elim (fun h => h.elim List.mem_of_mem_take (fun h => List.mem_of_mem_drop (List.mem_of_mem_take h))) List.mem_of_mem_drop)
            · simp only [List.length_append, List.length_take, List.length_drop, List.length_cons, List.length_nil]
              omega
          · refine ⟨_, rfl, rfl, _, rfl, ite2 (fun _ => ?_) (fun _ => ?_)⟩
            · skip
              refine ⟨_, rfl, _, rfl, _, rfl, R, xs, rfl, SqL.of (hR.ex ex).at_, fun F1 hF1 => ?_⟩
              have sF1 := same_new (o := .lst (cutV xs none (some ((k : Nat) : Int)))) hF1
              have aF1 : upd H5 F1 (.lst (cutV xs none (some ((k : Nat) : Int)))) F1 = some (.lst (cutV xs none (some ((k : Nat) : Int)))) := upd_same
              have eF1 := ex.trans (ex_same ex.pot sF1)
              have nF1 : F1 ≠ p := new_ne ex.pot hF1
              clear ex; have ex := eF1; clear eF1
              clear sF1
              generalize upd H5 F1 (.lst (cutV xs none (some ((k : Nat) : Int)))) = H5_0 at ex  aF1 ⊢
              refine ⟨_, rfl, _, rfl, _, _, rfl, rfl, _, rfl, R, xs, rfl, SqL.of (hR.ex ex).at_, fun F2 hF2 => ?_⟩
              have sF2 := same_new (o := .lst (cutV xs (some (((k : Nat) : Int) + 1)) none)) hF2
              have aF2 : upd H5_0 F2 (.lst (cutV xs (some (((k : Nat) : Int) + 1)) none)) F2 = some (.lst (cutV xs (some (((k : Nat) : Int) + 1)) none)) := upd_same
              replace aF1 := sF2 _ _ aF1
              have eF2 := ex.trans (ex_same ex.pot sF2)
              have nF2 : F2 ≠ p := new_ne ex.pot hF2
              clear ex; have ex := eF2; clear eF2
              clear sF2
              generalize upd H5_0 F2 (.lst (cutV xs (some (((k : Nat) : Int) + 1)) none)) = H5_0_1 at ex aF1 aF2 ⊢
              refine ⟨F1, F2, _, _, rfl, rfl, aF1, aF2, by (try simp only [List.length_append, List.length_cons, List.length_nil]); omega, fun F3 hF3 => ?_⟩
              have sF3 := same_new (o := .lst ((cutV xs none (some ((k : Nat) : Int))) ++ (cutV xs (some (((k : Nat) : Int) + 1)) none))) hF3
              have aF3 : upd H5_0_1 F3 (.lst ((cutV xs none (some ((k : Nat) : Int))) ++ (cutV xs (some (((k : Nat) : Int) + 1)) none))) F3 = some (.lst ((cutV xs none (some ((k : Nat) : Int))) ++ (cutV xs (some (((k : Nat) : Int) + 1)) none))) := upd_same
              replace aF1 := sF3 _ _ aF1
              replace aF2 := sF3 _ _ aF2
              have eF3 := ex.trans (ex_same ex.pot sF3)
              have nF3 : F3 ≠ p := new_ne ex.pot hF3
              clear ex; have ex := eF3; clear eF3
              clear sF3
              generalize upd H5_0_1 F3 (.lst ((cutV xs none (some ((k : Nat) : Int))) ++ (cutV xs (some (((k : Nat) : Int) + 1)) none))) = H5_0_1_2 at ex aF1 aF2 aF3 ⊢
              have RF := hR.ex ex
              have dpF := dpa_app (dpa_take (k := k) RF.dp) (dpa_drop (k := k + 1) RF.dp)
              refine hQ F3 _ ((ds.take k) ++ (ds.drop (k + 1))) _ ex ⟨nF3, aF3, ?_, fun d hd => ?_⟩ ?_
              · simp only [cutV_to, cutV_from, cutV_from1, cutV_mid]
                exact dpF
              · simp only [List.mem_append, List.mem_singleton] at hd
                exact hR.sb d (hd.elim List.mem_of_mem_take List.mem_of_mem_drop)
              · simp only [List.length_append, List.length_take, List.length_drop, List.length_cons, List.length_nil]
                omega
            · skip
              refine ⟨_, rfl, _, rfl, _, rfl, R, xs, rfl, SqL.of (hR.ex ex).at_, fun F1 hF1 => ?_⟩
              have sF1 := same_new (o := .lst (cutV xs (some ((k : Nat) : Int)) none)) hF1
              have aF1 : upd H5 F1 (.lst (cutV xs (some ((k : Nat) : Int)) none)) F1 = some (.lst (cutV xs (some ((k : Nat) : Int)) none)) := upd_same
              have eF1 := ex.trans (ex_same ex.pot sF1)
              have nF1 : F1 ≠ p := new_ne ex.pot hF1
              clear ex; have ex := eF1; clear eF1
              clear sF1
              generalize upd H5 F1 (.lst (cutV xs (some ((k : Nat) : Int)) none)) = H5_0 at ex  aF1 ⊢
              refine ⟨_, rfl, _, rfl, _, rfl, R, xs, rfl, SqL.of (hR.ex ex).at_, fun F2 hF2 => ?_⟩
              have sF2 := same_new (o := .lst (cutV xs none (some ((k : Nat) : Int)))) hF2
              have aF2 : upd H5_0 F2 (.lst (cutV xs none (some ((k : Nat) : Int)))) F2 = some (.lst (cutV xs none (some ((k : Nat) : Int)))) := upd_same
              replace aF1 := sF2 _ _ aF1
              have eF2 := ex.trans (ex_same ex.pot sF2)
              have nF2 : F2 ≠ p := new_ne ex.pot hF2
              clear ex; have ex := eF2; clear eF2
              clear sF2
              generalize upd H5_0 F2 (.lst (cutV xs none (some ((k : Nat) : Int)))) = H5_0_1 at ex aF1 aF2 ⊢
              refine ⟨F1, F2, _, _, rfl, rfl, aF1, aF2, by (try simp only [List.length_append, List.length_cons, List.length_nil]); omega, fun F3 hF3 => ?_⟩
              have sF3 := same_new (o := .lst ((cutV xs (some ((k : Nat) : Int)) none) ++ (cutV xs none (some ((k : Nat) : Int))))) hF3
              have aF3 : upd H5_0_1 F3 (.lst ((cutV xs (some ((k : Nat) : Int)) none) ++ (cutV xs none (some ((k : Nat) : Int))))) F3 = some (.lst ((cutV xs (some ((k : Nat) : Int)) none) ++ (cutV xs none (some ((k : Nat) : Int))))) := upd_same
              replace aF1 := sF3 _ _ aF1
              replace aF2 := sF3 _ _ aF2
              have eF3 := ex.trans (ex_same ex.pot sF3)
              have nF3 : F3 ≠ p := new_ne ex.pot hF3
              clear ex; have ex := eF3; clear eF3
              clear sF3
              generalize upd H5_0_1 F3 (.lst ((cutV xs (some ((k : Nat) : Int)) none) ++ (cutV xs none (some ((k : Nat) : Int))))) = H5_0_1_2 at ex aF1 aF2 aF3 ⊢
              have RF := hR.ex ex
              have dpF := dpa_app (dpa_drop (k := k) RF.dp) (dpa_take (k := k) RF.dp)
              refine hQ F3 _ ((ds.drop k) ++ (ds.take k)) _ ex ⟨nF3, aF3, ?_, fun d hd => ?_⟩ ?_
              · simp only [cutV_to, cutV_from, cutV_from1, cutV_mid]
                exact dpF
              · simp only [List.mem_append, List.mem_singleton] at hd
                exact hR.sb d (hd.elim List.mem_of_mem_drop List.mem_of_mem_take)
              · simp only [List.length_append, List.length_take, List.length_drop, List.length_cons, List.length_nil]
                omega
end
end MN
/-! the law k05: law -/
namespace MN
open PySem PySem.Spec PyProof.Rows L2 MNE
theorem set_same {α : Type} {l : List α} {i : Nat} {v : α} (h : l[i]? = some v) : l.set i v = l := by
  obtain ⟨hi, rfl⟩ := List.getElem?_eq_some_iff.mp h
  exact List.set_getElem_self hi
theorem repS_w {u : List Nat} {n : Nat} : repS (wS u) ((n : Nat) : Int) = wS (List.replicate n u).flatten := rfl
/-- if _law_toss(cup, 6) == 0: word = word * 99 -/
def tMul : TS := fun D σ H => ∃ p u, σ[2]? = some (some (.ref p)) ∧ Pot H p ∧ σ[5]? = some (some (.str (wS u))) ∧ u.length ≤ 9 ∧ ∀ u2 H', (∀ a ∈ u2, a ∈ u) → u2.length ≤ 891 → Ex p H H' → D.nx (σ.set 5 (some (.str (wS u2)))) H'
theorem imp_mul : ∀ D σ H, tMul D σ H → tIfS (tTest (tOp rEq (tCall spDip [] E0 (tCons (tVar 2) (tCons (tC (.int 6)) tNil))) (tC (.int 0)))) (tAsg (tOp rRepS (tVar 5) (tC (.int 99))) (gName 5)) tNext D σ H := by
  intro D σ H h
  obtain ⟨p, u, h2, ⟨a, b, c, hp⟩, h5, lu, q⟩ := h
  refine ⟨_, h2, p, 6, a, b, c, rfl, hp, by decide, by decide, fun r x1 y1 z1 r0 r1 => ⟨rfl, _, rfl, ite2 (fun _ => ?_) (fun _ => ?_)⟩⟩
  · refine ⟨_, h5, wS u, 99, rfl, rfl, by decide, by decide, by rw [wS_len]; omega, ?_⟩
    rw [show (99 : Int) = ((99 : Nat) : Int) from rfl, repS_w]
    refine q _ _ (fun a ha => ?_) ?_ Ex.turn
    · obtain ⟨l, hl, ha⟩ := List.mem_flatten.mp ha
      rw [(List.mem_replicate.mp hl).2] at ha
      exact ha
    · rw [List.length_flatten, List.map_replicate, List.sum_replicate_nat]
      omega
  · have := q u _ (fun a ha => ha) (by omega) (Ex.turn (H := H) (p := p) (a := x1) (b := y1) (c := z1))
    rw [set_same h5] at this
    exact this
/-- if turn == 3: odd = spoiled(cup, word, odd) -/
def tOdd (K : PySem.W.Frag) : TS := fun D σ H => ∃ p u F ys es i, σ[8]? = some (some (.int i)) ∧ σ[2]? = some (some (.ref p)) ∧ σ[5]? = some (some (.str (wS u))) ∧ σ[9]? = some (some (.ref F)) ∧ Pot H p ∧ (∀ a ∈ u, a ∈ abc) ∧ u.length ≤ 950 ∧ RwX K p H F ys es ∧ es.length ≤ 11 ∧ ∀ F' ys' es' H', Ex p H H' → RwX K p H' F' ys' es' → es'.length ≤ 12 → D.nx (σ.set 9 (some (.ref F'))) H'
theorem imp_odd {K : PySem.W.Frag} : ∀ D σ H, tOdd K D σ H → tIfS (tTest (tOp rEq (tVar 8) (tC (.int 3)))) (tAsg (tCall (spSpoil5 K) [] E0 (tCons (tVar 2) (tCons (tVar 5) (tCons (tVar 9) tNil)))) (gName 9)) tNext D σ H := by
  intro D σ H h
  obtain ⟨p, u, F, ys, es, i, h8, h2, h5, h9, hp, su, lu, hR, le, q⟩ := h
  refine ⟨_, h8, rfl, _, rfl, ite2 (fun _ => ?_) (fun _ => ?_)⟩
  · exact ⟨_, h2, _, h5, _, h9, p, F, u, ys, es, rfl, hp, su, lu, hR, by omega, fun F' ys' es' H' ex hR' le' => q F' ys' es' H' ex hR' (by omega)⟩
  · have := q F ys es H (Ex.refl hp) hR (by omega)
    rw [set_same h9] at this
    exact this
theorem RwX.gnd {K : PySem.W.Frag} {p : Addr} {H H' : Hp} {R : Addr} {xs : List V} {ds : List PyData} (h : RwX K p H R xs ds) (g : Gnd p (Gb p H) H') : RwX K p H' R xs ds := ⟨h.ne, g.same _ _ (gb_keep _ _ h.ne (fun _ z => nomatch z) h.at_), dpa_same (gnd_gb g) _ _ h.dp, h.sb⟩
/-- the row as a tuple -/
theorem RwX.row {K : PySem.W.Frag} {p T : Addr} {H : Hp} {R : Addr} {xs : List V} {ds : List PyData} (h : RwX K p H R xs ds) (l : ds.length ≤ 12) (hp : Pot H p) (hT : H T = none) : RowD K (Gb p (upd H T (.tup xs))) (.ref T) (.tuple ds) := by
  refine .inl ⟨.tup (.inl (.inl (gb_keep _ _ (new_ne hp hT) (fun _ z => nomatch z) upd_same))) (dpa_same (gb_same (same_new hT)) _ _ h.dp), (Sb.tuple h.sb).mono (by decide) ?_, fun ds' e => ?_⟩
  · have := Nat.mul_le_mul_right (3612 + 1) l
    omega
  · injection e with e
    rw [← e]
    omega
section
variable {P : Program} {w : World} {K : PySem.W.Frag} {mg : Str → Option Value} {base : Heap} {Cp : Addr} {T : List (Addr × Str)}
def spLaw05 (K : PySem.W.Frag) (T : List (Addr × Str)) : Sp := fun vs H Q _ => ∃ (a : Addr) (ns : List Int), vs = [.ref a] ∧ SqL K H a (ns.map V.int) ∧ ns.length ≤ 1000 ∧ LamX.Tabs T H ∧ ∀ H', Q (.bl true) H'
abbrev N_law : List Str := ["_law_script", "_law_at", "_law_cup_here", "_law_letters", "_law_table", "_law_word", "_law_prices", "_law_row", "_law_turn", "_law_odd", "_law_value"]
theorem sc_law : FnScope N_law ["_law_script"] (defScope (top 53)) := ⟨rfl, rfl, rfl, by decide +kernel, rfl, by decide +kernel, by decide +kernel⟩
theorem f_law05 {f : Addr} {fd : FuncData} (F : FunD K "law" "law" (defArgs (top 53)) (defBody (top 53)) (defScope (top 53)) [] [] f fd) (B : Blt mg) (c_law_cup : Cal P w K mg base 1 "_law_cup" (spFilled K)) (c_law_toss : Cal P w K mg base 1 "_law_toss" spDip) (c_law_alphabet : Cal P w K mg base 3 "_law_alphabet" spAlpha) (c_law_rates : Cal P w K mg base 3 "_law_rates" (spRates K))
    (c_law_spelled5 : Cal P w K mg base 3 "_law_spelled" (spSpell5 K)) (c_law_pricedP : Cal P w K mg base 6 "_law_priced" (spPricedP Cp)) (c_law_steps5 : Cal P w K mg base 4 "_law_steps_drawn" (spSteps5 K)) (c_law_spoil5 : Cal P w K mg base 4 "_law_spoiled" (spSpoil5 K)) (c_law_row_right5 : CalG P w K mg base 9 "_law_row_right" (spRow5 K Cp T)) : FnG P w K mg base 10 f fd ["_law_script"] (spLaw05 K T) := by
  refine fnG_of F sc_law (fun vs H Q E h => ?_) (fun cdv A outer s H vs Q E gd hr h => ?_)
  · obtain ⟨_, _, rfl, _⟩ := h; rfl
  · obtain ⟨a, ns, rfl, ha, hn, hT, hQ⟩ := h
    refine ⟨_, (pss_cons (ps_for PassesOwn.never rfl (pi_range1 (by rfl) B.range (pa_cons (pe_callB (call_max2 rfl) (by rfl) B.max (by decide +kernel) (pa_cons pe_int (pa_cons (pe_callB (call_min2 rfl) (by rfl) B.min (by decide +kernel) (pa_cons pe_int (pa_cons (pe_callB call_len_seq (by rfl) B.len (by decide +kernel) (pa_cons (pv 0) pa_nil)) pa_nil))) pa_nil))) pa_nil)) (pg_name (i := 1) sc_law.nd rfl (Or.inl rfl))
      (pss_cons (ps_set (i := 2) sc_law.nd rfl (Or.inl rfl) (pe_c c_law_cup hr (by decide) (by rfl) (pa_cons (pv 0) (pa_cons (pv 1) pa_nil))))
      (pss_cons (ps_set (i := 3) sc_law.nd rfl (Or.inl rfl) (pe_c c_law_alphabet hr (by decide) (by rfl) (pa_cons (pv 2) (pa_cons pe_int pa_nil))))
      (pss_cons (ps_par (i := 4) (j := 5) (by rfl) sc_law.nd rfl rfl (by decide) rfl rfl (pa_cons (pe_c c_law_rates hr (by decide) (by rfl) (pa_cons (pv 2) (pa_cons (pv 3) (pa_cons pe_int pa_nil)))) (pa_cons (pe_c c_law_spelled5 hr (by decide) (by rfl) (pa_cons (pv 2) (pa_cons (pv 3) (pa_cons pe_int pa_nil)))) pa_nil)) (by rfl))
      (pss_cons (PS.imp5 (t' := tMul) (ps_if (pt_cmpR op_eq (pe_c c_law_toss hr (by decide) (by rfl) (pa_cons (pv 2) (pa_cons pe_int pa_nil))) pe_int (nomark _)) (pss_one (ps_set (i := 5) sc_law.nd rfl (Or.inl rfl) (pe_op op_repS (pv 5) pe_int))) pss_nil) imp_mul)
      (pss_cons (ps_par (i := 6) (j := 7) (by rfl) sc_law.nd rfl rfl (by decide) rfl rfl (pa_cons (pe_c c_law_pricedP hr (by decide) (by rfl) (pa_cons (pv 4) pa_nil)) (pa_cons (pe_c c_law_steps5 hr (by decide) (by rfl) (pa_cons (pv 2) (pa_cons (pv 3) (pa_cons (pv 5) (pa_cons pe_int pa_nil))))) pa_nil)) (by rfl))
      (pss_cons (ps_if (pt_not (pt_val (pe_cG c_law_row_right5 gd hr (by decide) (by rfl) (pa_cons (pv 6) (pa_cons (pv 4) (pa_cons (pv 5) (pa_cons (pe_callTy call_tuple_of (by rfl) B.tuple (by decide +kernel) (pa_cons (pv 7) pa_nil)) pa_nil))))))) (pss_one (ps_ret pe_bl)) pss_nil)
      (pss_cons (ps_for PassesOwn.never rfl (pi_range1 (by rfl) B.range (pa_cons pe_int pa_nil)) (pg_name (i := 8) sc_law.nd rfl (Or.inl rfl))
      (pss_cons (ps_set (i := 9) sc_law.nd rfl (Or.inl rfl) (pe_c c_law_spoil5 hr (by decide) (by rfl) (pa_cons (pv 2) (pa_cons (pv 5) (pa_cons (pv 7) pa_nil)))))
      (pss_cons (PS.imp5 (t' := tOdd K) (ps_if (pt_cmpR op_eq (pv 8) pe_int (nomark _)) (pss_one (ps_set (i := 9) sc_law.nd rfl (Or.inl rfl) (pe_c c_law_spoil5 hr (by decide) (by rfl) (pa_cons (pv 2) (pa_cons (pv 5) (pa_cons (pv 9) pa_nil)))))) pss_nil) imp_odd)
      (pss_one (ps_if (pt_not (pt_val (pe_cG c_law_row_right5 gd hr (by decide) (by rfl) (pa_cons (pv 6) (pa_cons (pv 4) (pa_cons (pv 5) (pa_cons (pe_callTy call_tuple_of (by rfl) B.tuple (by decide +kernel) (pa_cons (pv 9) pa_nil)) pa_nil))))))) (pss_one (ps_ret pe_bl)) pss_nil)))))
      (pss_one (ps_for PassesOwn.never rfl (pi_list (pe_lst (pa_cons pe_non (pa_cons (pe_callTy call_list_of (by rfl) B.list (by decide +kernel) (pa_cons (pv 7) pa_nil)) (pa_cons (pe_tup (pa_cons (pe_callTy call_tuple_of (by rfl) B.tuple (by decide +kernel) (pa_cons (pv 7) pa_nil)) pa_nil)) (pa_cons pe_str (pa_cons pe_int (pa_cons pe_dnewK pa_nil)))))))) (pg_name (i := 10) sc_law.nd rfl (Or.inl rfl))
      (pss_one (ps_if (pt_not (pt_val (pe_cG c_law_row_right5 gd hr (by decide) (by rfl) (pa_cons (pv 6) (pa_cons (pv 4) (pa_cons (pv 5) (pa_cons (pv 10) pa_nil))))))) (pss_one (ps_ret pe_bl)) pss_nil))))))))))))
      (pss_one (ps_ret pe_bl))), ?_⟩
    have one : 1 ≤ sizeLine := by decide
    have big : 100000 < sizeLine := by decide
    refine ⟨_, rfl, a, _, rfl, .inl ha, _, _, rfl, _, _, rfl, _, rfl, ?_, ?_, for_it (walk_range (lo := 0)) (fun i σ H' => SqL K H' a (ns.map V.int) ∧ LamX.Tabs T H' ∧ ∃ o1 o2 o3 o4 o5 o6 o7 o8 o9 o10, σ = [some (.ref a), o1, o2, o3, o4, o5, o6, o7, o8, o9, o10]) ⟨ha, hT, _, _, _, _, _, _, _, _, _, _, rfl⟩ (fun _ _ _ _ _ => trivial) (fun i x σ H1 H1' hi e y => ?_) (fun σ H1 e => hQ _)⟩
    · rw [List.length_map]; split <;> split <;> omega
    · rw [List.length_map]; split <;> split <;> omega
    obtain ⟨rfl, rfl⟩ := y
    obtain ⟨ha1, hT1, o1, o2, o3, o4, o5, o6, o7, o8, o9, o10, rfl⟩ := e
    have hi8 : i < 10 := by
      refine Nat.lt_of_lt_of_le hi ?_
      rw [List.length_map]
      split <;> split <;> omega
    refine ⟨_, rfl, _, rfl, a, _, ns, rfl, ha1, by omega, by omega, fun p H2 hpn s2 hp2 => ?_⟩
    have nap : ∀ o, H1' a = some o → a ≠ p := fun o h => ne_of_none h hpn
    have hT2 := hT1.ext s2
    refine ⟨_, rfl, p, 3, rfl, hp2, by decide, by decide, fun zs l H3 ok lz3 hl0 ex3 hl => ?_⟩
    have nlp := new_ne hp2 hl0
    refine ⟨_, rfl, _, rfl, p, l, 3, zs, rfl, ex3.pot, nlp, SqL.of hl, ok, by decide, by decide, fun t TA TB TW g o ps H4 N nAB ht0 hA0 hB0 hS0 ex4 ht hA hB hS => ?_⟩
    have nt := new_ne ex3.pot ht0
    have nA := new_ne ex3.pot hA0
    have nB := new_ne ex3.pot hB0
    have nS := new_ne ex3.pot hS0
    have hl4 := ex4.keep _ _ nlp hl
    refine ⟨_, rfl, _, rfl, p, l, 9, zs, rfl, ex4.pot, nlp, SqL.of hl4, ok, by decide, by decide, fun u0 H5 hu0 lu0 ex5 => ⟨_, _, rfl, ?_⟩⟩
    refine ⟨p, u0, rfl, ex5.pot, rfl, by omega, fun u H6 hu lu ex6 => ?_⟩
    have su : ∀ b ∈ u, b ∈ abc := fun b hb => codes_abc ok (hu0 b (hu b hb))
    have ex56 := ex5.trans ex6
    have TT6 : TblAt H6 t zs g o ps TA TB TW := ⟨ex56.keep _ _ nt ht, ex56.keep _ _ nA hA, ex56.keep _ _ nB hB, ex56.keep _ _ nS hS⟩
    refine ⟨_, rfl, t, TA, TB, TW, zs, g, o, ps, rfl, TT6, N, fun x dx ys ys2 qs H7 e7 PrA NP pm pq => ?_⟩
    have er : rOf (codesOf ys) g o qs = rOf (codesOf zs) g o ps := funext fun b => funext fun c => rOf_perm N.sn pm pq b c
    have ex7 := ex_same ex6.pot e7
    have hl7 := ex7.keep _ _ nlp (ex56.keep _ _ nlp hl4)
    refine ⟨_, rfl, _, rfl, _, rfl, p, l, u, zs, 9, rfl, ex7.pot, nlp, SqL.of hl7, ok, by omega, by decide, by decide, fun R cs H8 okc lc ex8 hR0 ls => ⟨_, _, rfl, ?_⟩⟩
    have TT7 := TT6.same e7
    have tblG : TblAt (Gb p H8) t zs g o ps TA TB TW := ⟨gb_keep _ _ nt (fun _ z => nomatch z) (ex8.keep _ _ nt TT7.t), gb_keep _ _ nA (fun _ z => nomatch z) (ex8.keep _ _ nA TT7.a), gb_keep _ _ nB (fun _ z => nomatch z) (ex8.keep _ _ nB TT7.b), gb_keep _ _ nS (fun _ z => nomatch z) (ex8.keep _ _ nS TT7.s)⟩
    have prG : PrAt Cp (Gb p H8) x dx ys ys2 g o qs := PrA.nta (NTa.of_ex ex8 gb_keep) ex7.pot
    have nR : R ≠ p := new_ne ex7.pot hR0
    obtain ⟨xs, hR, hds⟩ := ls.ex
    have lc9 : cs.length ≤ 9 := by omega
    have RW : RwX K p H8 R xs (cs.map Ch5.dat) := ⟨nR, hR, dpa_same (tp_gb ex8.pot) _ _ hds, fun d hd => by
      obtain ⟨c, hc, rfl⟩ := List.mem_map.mp hd
      obtain ⟨j, hj, rfl⟩ := List.mem_iff_getElem.mp hc
      have okj := okRow_at okc (List.getElem?_eq_getElem hj)
      have h2 : okRow u (cs.take j) := by
        have := okRow_app (u := u) (a := cs.take j) (b := cs.drop j)
        rw [List.take_append_drop] at this
        exact (this.mp okc).1
      have := lastW_len h2
      have h3 : (cs.take j).length ≤ 9 := by rw [List.length_take]; omega
      exact (sb_dat okj (by omega)).mono (by decide) (by decide)⟩
    have lds : (cs.map Ch5.dat).length ≤ 9 := by rw [List.length_map]; exact lc9
    have ex28 : Ex p H2 H8 := (((ex3.trans ex4).trans ex56).trans ex7).trans ex8
    have hp8 := ex28.pot
    have hT8 := tabs_ex hT2 hp2 ex28
    have nta : NTa p H1' H8 := NTa.of_same s2 (NTa.ex ex28)
    clear hds ls PrA TT7 TT6 hl7 hl4 hl ht hA hB hS ex3 ex4 ex5 ex6 ex56 ex7 ex8 e7 ex28 hT1 hT2
    have g8 : Gnd p (Gb p H8) H8 := gb_gnd
    refine ⟨_, rfl, _, rfl, _, rfl, _, rfl, R, xs, rfl, .inl ⟨SqL.of RW.at_, fun T0 hT0 => ?_⟩⟩
    have s9 := same_new (o := .tup xs) hT0
    refine ⟨p, x, t, u, .ref T0, _, dx, ys, ys2, g, o, qs, TA, TB, TW, zs, ps, rfl, pot_same hp8 s9, hT8.ext s9, su, by omega, RW.row (by omega) hp8 hT0, prG.same (gnd_gb (g8.same_ s9)), NP, tblG.same (gnd_gb (g8.same_ s9)), N, er, fun Ha ga hpa hTa => ⟨_, rfl, iteF ?_⟩⟩
    have gA := (g8.same_ s9).trans ga
    refine ⟨_, rfl, by decide, by decide, for_it (walk_range (lo := 0)) (fun i' σ H' => Gnd p (Gb p H8) H' ∧ Pot H' p ∧ LamX.Tabs T H' ∧ ∃ o8 o9 o10, σ = [some (.ref a), some (.int ((0 : Int) + (i : Int))), some (.ref p), some (.ref l), some (.ref t), some (.str (wS u)), some (.ref x), some (.ref R), o8, o9, o10]) ⟨gA, hpa, hTa, _, _, _, rfl⟩ (fun _ _ _ _ _ => trivial) (fun j y σ Hb Hb' hj e yy => ?_) (fun σ Hb e => ?_)⟩
    · obtain ⟨rfl, rfl⟩ := yy
      obtain ⟨gb, hpb, hTb, o8, o9, o10, rfl⟩ := e
      refine ⟨_, rfl, _, rfl, _, rfl, p, R, u, xs, _, rfl, hpb, su, by omega, RW.gnd gb, by omega, fun F1 ys1 es1 Hc exc R1 le1 => ?_⟩
      have gc := gb.ex exc
      have hTc := tabs_ex hTb hpb exc
      refine ⟨p, u, F1, ys1, es1, _, rfl, rfl, rfl, rfl, exc.pot, su, by omega, R1, by omega, fun F2 zs2 es2 Hd exd R2 le2 => ?_⟩
      have gdd := gc.ex exd
      refine ⟨_, rfl, _, rfl, _, rfl, _, rfl, F2, zs2, rfl, .inl ⟨SqL.of R2.at_, fun T1 hT1 => ?_⟩⟩
      have s1 := same_new (o := .tup zs2) hT1
      refine ⟨p, x, t, u, .ref T1, _, dx, ys, ys2, g, o, qs, TA, TB, TW, zs, ps, rfl, pot_same exd.pot s1, (tabs_ex hTc exc.pot exd).ext s1, su, by omega, R2.row le2 exd.pot hT1, prG.same (gnd_gb (gdd.same_ s1)), NP, tblG.same (gnd_gb (gdd.same_ s1)), N, er, fun He ge hpe hTe => ⟨_, rfl, iteF ?_⟩⟩
      exact ⟨(gdd.same_ s1).trans ge, hpe, hTe, _, _, _, rfl⟩
    · obtain ⟨gb, hpb, hTb, o8, o9, o10, rfl⟩ := e
      have RWb := RW.gnd gb
      refine ⟨_, rfl, R, xs, rfl, .inl (SqL.of RWb.at_), fun L1 hL1 => ?_⟩
      have q1 := same_new (o := .lst xs) hL1
      have aL1 : upd Hb L1 (.lst xs) L1 = some (.lst xs) := upd_same
      have nL1 := new_ne hpb hL1
      have g1 := gb.same_ q1
      have p1 := pot_same hpb q1
      generalize upd Hb L1 (.lst xs) = Hc at q1 aL1 g1 p1 ⊢
      refine ⟨_, rfl, R, xs, rfl, .inl ⟨SqL.of (q1 _ _ RWb.at_), fun T1 hT1 => ⟨one, fun T2 hT2 => ?_⟩⟩⟩
      have q2 := same_new (o := .tup xs) hT1
      have aT1 : upd Hc T1 (.tup xs) T1 = some (.tup xs) := upd_same
      have nT1 := new_ne p1 hT1
      have p2 := pot_same p1 q2
      generalize upd Hc T1 (.tup xs) = Hd at q2 aT1 p2 hT2 ⊢
      have q3 := same_new (o := .tup [.ref T1]) hT2
      have aT2 : upd Hd T2 (.tup [.ref T1]) T2 = some (.tup [.ref T1]) := upd_same
      have nT2 := new_ne p2 hT2
      have p3 := pot_same p2 q3
      generalize upd Hd T2 (.tup [.ref T1]) = He at q3 aT2 p3 ⊢
      refine fun D0 hD0 => ⟨(by show 6 ≤ sizeLine; decide), fun L6 hL6 => ?_⟩
      have q4 := same_new (o := .dK []) hD0
      have aD0 : upd He D0 (.dK []) D0 = some (.dK []) := upd_same
      have nD0 := new_ne p3 hD0
      have p4 := pot_same p3 q4
      generalize upd He D0 (.dK []) = Hf at q4 aD0 p4 hL6 ⊢
      have q5 := same_new (o := .lst [.non, .ref L1, .ref T2, .str "out", .int 0, .ref D0]) hL6
      have aL6 : upd Hf L6 (.lst [.non, .ref L1, .ref T2, .str "out", .int 0, .ref D0]) L6 = some (.lst [.non, .ref L1, .ref T2, .str "out", .int 0, .ref D0]) := upd_same
      have nL6 := new_ne p4 hL6
      have p5 := pot_same p4 q5
      generalize upd Hf L6 (.lst [.non, .ref L1, .ref T2, .str "out", .int 0, .ref D0]) = Hg at q5 aL6 p5 ⊢
      have qq := (((q1.trans q2).trans q3).trans q4).trans q5
      have g5 := gb.same_ qq
      have t5 := hTb.ext qq
      have RWg := RW.gnd g5
      have prF := prG.same (gnd_gb g5)
      have tblF := tblG.same (gnd_gb g5)
      have keep : ∀ b o, b ≠ p → (∀ ps, o ≠ .tbl ps) → Hg b = some o → Gb p Hg b = some o := gb_keep
      have dT1 : Dp K (Gb p Hg) (.ref T1) (.tuple (cs.map Ch5.dat)) := .tup (.inl (.inl (keep _ _ nT1 (fun _ z => nomatch z) (q5 _ _ (q4 _ _ (q3 _ _ aT1)))))) RWg.dp
      have sT1 : Sb 3 40000 (.tuple (cs.map Ch5.dat)) := (Sb.tuple RWg.sb).mono (Nat.le_refl _) (by
        have := Nat.mul_le_mul_right (3612 + 1) lds
        omega)
      have vals : ∀ v ∈ [V.non, .ref L1, .ref T2, .str "out", .int 0, .ref D0], ∃ d, RowD K (Gb p Hg) v d := fun v hv => by
        rcases (by simpa using hv : v = .non ∨ v = .ref L1 ∨ v = .ref T2 ∨ v = .str "out" ∨ v = .int 0 ∨ v = .ref D0) with rfl | rfl | rfl | rfl | rfl | rfl
        · exact ⟨.none, .inl ⟨.non, Sb.none.mono (by decide) (by decide), fun ds e => nomatch e⟩⟩
        · refine ⟨.list (cs.map Ch5.dat), .inl ⟨.lst (SqL.of (keep _ _ nL1 (fun _ z => nomatch z) (q5 _ _ (q4 _ _ (q3 _ _ (q2 _ _ aL1)))))) RWg.dp, (Sb.list RWg.sb).mono (by decide) ?_, fun ds e => nomatch e⟩⟩
          have := Nat.mul_le_mul_right (3612 + 1) lds
          omega
        · refine ⟨.tuple [.tuple (cs.map Ch5.dat)], .inl ⟨.tup (.inl (.inl (keep _ _ nT2 (fun _ z => nomatch z) (q5 _ _ (q4 _ _ aT2))))) (.cons dT1 .nil), (Sb.tuple (n := 3) (w := 40000) fun d hd => ?_).mono (by decide) (by show 1 * 40001 ≤ 50000; decide), fun ds e => ?_⟩⟩
          · rw [List.mem_singleton.mp hd]
            exact sT1
          · injection e with e
            rw [← e]
            show 1 ≤ 40
            decide
        · exact ⟨.str "out", .inl ⟨.str _, (Sb.str (L := 20) (by decide) (by decide +kernel)).mono (by decide) (by decide), fun ds e => nomatch e⟩⟩
        · exact ⟨.int 0, .inl ⟨.int _, (Sb.int (by decide) (by decide)).mono (by decide) (by decide), fun ds e => nomatch e⟩⟩
        · exact ⟨.dict [], .inr ⟨D0, rfl, keep _ _ nD0 (fun _ z => nomatch z) (q5 _ _ aD0), rfl⟩⟩
      have aG : Gb p Hg L6 = some (.lst [.non, .ref L1, .ref T2, .str "out", .int 0, .ref D0]) := keep _ _ nL6 (fun _ z => nomatch z) aL6
      refine ⟨_, rfl, ⟨_, SqL.of aL6⟩, for_it walk_list (fun i' σ H' => Gnd p (Gb p Hg) H' ∧ Pot H' p ∧ LamX.Tabs T H' ∧ ∃ o8 o9 o10, σ = [some (.ref a), some (.int ((0 : Int) + (i : Int))), some (.ref p), some (.ref l), some (.ref t), some (.str (wS u)), some (.ref x), some (.ref R), o8, o9, o10]) ⟨gb_gnd, p5, t5, _, _, _, rfl⟩ (fun j σ H' _ e => SqL.of (e.1.same _ _ aG)) (fun j y σ Hx Hx' hj e yy => ?_) (fun σ Hx e => ?_)⟩
      · obtain ⟨rfl, hy⟩ := yy
        obtain ⟨gx, hpx, hTx, o8, o9, o10, rfl⟩ := e
        obtain ⟨dv, hdv⟩ := vals y (List.mem_of_getElem? hy)
        refine ⟨_, rfl, _, rfl, _, rfl, _, rfl, p, x, t, u, y, _, dx, ys, ys2, g, o, qs, TA, TB, TW, zs, ps, rfl, hpx, hTx, su, by omega, hdv.same (gnd_gb gx), prF.same (gnd_gb gx), NP, tblF.same (gnd_gb gx), N, er, fun He ge hpe hTe => ⟨_, rfl, iteF ?_⟩⟩
        exact ⟨gx.trans ge, hpe, hTe, _, _, _, rfl⟩
      · obtain ⟨gx, hpx, hTx, o8, o9, o10, rfl⟩ := e
        exact ⟨(nta.trans (g5.trans gx).toNTa).seqInts nap ha1, hTx, _, _, _, _, _, _, _, _, _, _, rfl⟩
end
end MN
/-! what the head must say of the two errors and of the maker of lambdas -/
namespace MN
open PySem PySem.Spec PyProof.Rows L2 MNE
/-- of each two of the classes: the one is of the other if they are the same -/
def exmB (K : PySem.W.Frag) (cs : List Addr) : Bool := (List.range cs.length).all fun i => (List.range cs.length).all fun j => decide (PySem.W.exmOne K (.ref (cs.getD i 0)) (.ref (cs.getD j 0)) = some (decide (i = j)))
theorem ers5_ok {K : PySem.W.Frag} {mg : Str → Option Value} {eC eO : Addr} (h : exmB K [eC, eO] = true) (gC : mg "InvalidChange" = some (.ref eC)) (gO : mg "InvalidOperation" = some (.ref eO)) : Ers5 K mg eC eO := by
  have key : ∀ i j, i < 2 → j < 2 → PySem.W.exmOne K (.ref ([eC, eO].getD i 0)) (.ref ([eC, eO].getD j 0)) = some (decide (i = j)) := fun i j hi hj => of_decide_eq_true (List.all_eq_true.mp (List.all_eq_true.mp h i (List.mem_range.mpr hi)) j (List.mem_range.mpr hj))
  exact ⟨gC, gO, key 0 0 (by decide) (by decide), key 1 0 (by decide) (by decide), key 1 1 (by decide) (by decide)⟩
theorem nd_inj {α β : Type} {f : α → β} : ∀ {l : List α}, (l.map f).Nodup → ∀ x ∈ l, ∀ y ∈ l, f x = f y → x = y
  | [], _, _, hx, _, _, _ => (nomatch hx)
  | a :: l, nd, x, hx, y, hy, e => by
    rw [List.map_cons, List.nodup_cons] at nd
    rcases List.mem_cons.mp hx with rfl | kx <;> rcases List.mem_cons.mp hy with rfl | ky
    · rfl
    · exact absurd (List.mem_map.mpr ⟨y, ky, e.symm⟩) nd.1
    · exact absurd (List.mem_map.mpr ⟨x, kx, e⟩) nd.1
    · exact nd_inj nd.2 x kx y ky e
/-- the makers -/
def mk05 : List Str := ["_law_row_right"]
def cs05 (K : PySem.W.Frag) : List (Addr × Addr) := mk05.map fun x => (cdX K x, tbX K x)
def T05 (K : PySem.W.Frag) : List (Addr × Str) := mk05.map fun x => (tbX K x, x ++ ".<locals>." ++ "<lambda>")
def mkB05 (K : PySem.W.Frag) : Bool := mk05.all (mkB K) && decide ((mk05.map (tbX K)).Nodup)
theorem mkT05 {K : PySem.W.Frag} {mg : Str → Option Value} {base : Heap} (h : mkB05 K = true) (tb : ∀ p ∈ cs05 K, LamX.TabB base mg p.1 p.2) {x : Str} (hx : x ∈ mk05) : MkT K mg base (T05 K) x := by
  obtain ⟨_, h2⟩ := He.ba h
  have nd := of_decide_eq_true h2
  refine ⟨tb (cdX K x, tbX K x) (List.mem_map.mpr ⟨x, hx, rfl⟩), List.mem_map.mpr ⟨x, hx, rfl⟩, fun p hp e => ?_⟩
  obtain ⟨y, hy, rfl⟩ := List.mem_map.mp hp
  have : y = x := nd_inj nd y hy x hx e
  rw [this]
theorem cs05_ok {K : PySem.W.Frag} {h : Heap} (X : K.In h) (c : mkB05 K = true) : (∀ p ∈ cs05 K, K.lookup p.2 = none) ∧ ∀ p ∈ cs05 K, PySem.W.CodeHd h p.1 p.2 := by
  obtain ⟨h1, _⟩ := He.ba c
  have key : ∀ p ∈ cs05 K, PySem.W.codeHdIn K p.1 p.2 = true ∧ K.lookup p.2 = none := fun p hp => by
    obtain ⟨x, hx, rfl⟩ := List.mem_map.mp hp
    obtain ⟨_, hb⟩ := He.ba (List.all_eq_true.mp h1 x hx)
    obtain ⟨b1, b2⟩ := He.ba hb
    exact ⟨b1, Option.isNone_iff_eq_none.mp b2⟩
  exact ⟨fun p hp => (key p hp).2, fun p hp => PySem.W.codeHd_of_K X (key p hp).1⟩
theorem tabs05 {K : PySem.W.Frag} {H : Hp} (h : ∀ p ∈ cs05 K, H p.2 = some (.tbl #[])) : LamX.Tabs (T05 K) H := fun p hp => by
  obtain ⟨x, hx, rfl⟩ := List.mem_map.mp hp
  exact LamX.TabS.nil (h (cdX K x, tbX K x) (List.mem_map.mpr ⟨x, hx, rfl⟩))
theorem mkB05_of {K : PySem.W.Frag} (c : mkB05 K = true) {x : Str} (hx : x ∈ mk05) : mkB K x = true := by
  obtain ⟨h1, _⟩ := He.ba c
  exact List.all_eq_true.mp h1 x hx
end MN
/-! the runs of the head -/
namespace MN
open PySem PySem.Spec PyProof.Rows L2
abbrev R05 : PySem.W.OpenRow := PySem.W.OpenLaw.row PySem.Challenge.rw_mendnumber_k05_changes_told
def names05 : List Str := ([("_wall" : Str), ("MendError" : Str), ("InvalidWord" : Str), ("InvalidPrices" : Str), ("InvalidChange" : Str), ("InvalidOperation" : Str), ("SIGNS" : Str), ("MAX_WORD" : Str)] : List Str) ++ ([("GREATEST" : Str), ("is_integer" : Str), ("is_sign" : Str), ("is_word" : Str), ("require_word" : Str), ("MAX_PRICE" : Str), ("MAX_SWAP" : Str), ("is_price" : Str)] : List Str) ++ ([("is_pair" : Str), ("are_prices" : Str), ("Prices" : Str), ("require_prices" : Str), ("is_place" : Str), ("made_by" : Str), ("words_along" : Str), ("require_changes" : Str)] : List Str) ++ ([("changed" : Str), ("taken_back" : Str), ("undone" : Str), ("price_of_change" : Str), ("prices_along" : Str), ("price_of" : Str), ("_law_cup" : Str), ("_law_toss" : Str)] : List Str) ++ ([("_law_choices" : Str), ("_law_alphabet" : Str), ("_law_choice" : Str), ("_law_rates" : Str), ("_law_spelled" : Str), ("_law_priced" : Str), ("_law_step_drawn" : Str), ("_law_made" : Str)] : List Str) ++ ([("_law_steps_drawn" : Str), ("_law_run" : Str), ("_law_paid" : Str), ("_law_way_back" : Str), ("_law_told_by" : Str), ("_law_row_right" : Str), ("_law_strange" : Str), ("_law_spoiled" : Str)] : List Str)
def defs05a : List He5.DefA := [gDef "is_integer" (top 11),
  gDef "is_sign" (top 12),
  gDef "is_word" (top 13),
  gDef "require_word" (top 14),
  gDef "is_price" (top 18),
  gDef "is_pair" (top 19),
  gDef "are_prices" (top 20),
  gDef "require_prices" (top 22),
  gDef "is_place" (top 24),
  gDef "made_by" (top 25),
  gDef "words_along" (top 26),
  gDef "require_changes" (top 27),
  gDef "changed" (top 28),
  gDef "taken_back" (top 29),
  gDef "undone" (top 30),
  gDef "price_of_change" (top 31),
  gDef "prices_along" (top 32),
  gDef "price_of" (top 33)]
def glo05a : List Str := ([("is_integer" : Str), ("is_sign" : Str), ("is_word" : Str), ("require_word" : Str), ("is_price" : Str), ("is_pair" : Str), ("are_prices" : Str), ("require_prices" : Str)] : List Str) ++ ([("is_place" : Str), ("made_by" : Str), ("words_along" : Str), ("require_changes" : Str), ("changed" : Str), ("taken_back" : Str), ("undone" : Str), ("price_of_change" : Str)] : List Str) ++ ([("prices_along" : Str), ("price_of" : Str)] : List Str)
def ex05a (K : PySem.W.Frag) : Bool := gloAll K glo05a && (freeAll K bltNames && ((He.Fa.str "SIGNS" "abcde").ok K && ((He.Fa.int "GREATEST" (10 ^ 60)).ok K && ((He.Fa.int "MAX_WORD" 1000).ok K && ((He.Fa.int "MAX_PRICE" 9).ok K && ((He.Fa.int "MAX_SWAP" 18).ok K))))))
def defs05b : List He5.DefA := [{ at_ := fun K => He.ma K (He.ga K "Prices") "__init__", name := "__init__", qual := "Prices.__init__", params := defArgs (inClass (top 21) 1), body := defBody (inClass (top 21) 1), scope := defScope (inClass (top 21) 1) },
  { at_ := fun K => He5.wf K (He.ga K "Prices") "property" "put", name := "put", qual := "Prices.put", params := defArgs (inClass (top 21) 4), body := defBody (inClass (top 21) 4), scope := defScope (inClass (top 21) 4) },
  { at_ := fun K => He5.wf K (He.ga K "Prices") "property" "out", name := "out", qual := "Prices.out", params := defArgs (inClass (top 21) 5), body := defBody (inClass (top 21) 5), scope := defScope (inClass (top 21) 5) },
  { at_ := fun K => He5.wf K (He.ga K "Prices") "property" "swap", name := "swap", qual := "Prices.swap", params := defArgs (inClass (top 21) 6), body := defBody (inClass (top 21) 6), scope := defScope (inClass (top 21) 6) }]
def glo05b : List Str := ([("Prices" : Str)] : List Str)
def ex05b (K : PySem.W.Frag) : Bool := gloAll K glo05b && (prPB K)
def defs05c : List He5.DefA := [gDef "_law_cup" (top 35),
  gDef "_law_toss" (top 36),
  gDef "_law_choices" (top 37),
  gDef "_law_alphabet" (top 38),
  gDef "_law_choice" (top 39),
  gDef "_law_rates" (top 40),
  gDef "_law_spelled" (top 41),
  gDef "_law_priced" (top 42),
  gDef "_law_step_drawn" (top 43),
  gDef "_law_made" (top 44),
  gDef "_law_steps_drawn" (top 45),
  gDef "_law_run" (top 46),
  gDef "_law_paid" (top 47),
  gDef "_law_way_back" (top 48),
  gDef "_law_told_by" (top 49),
  gDef "_law_row_right" (top 50),
  gDef "_law_strange" (top 51),
  gDef "_law_spoiled" (top 52),
  gDef "law" (top 53)]
def glo05c : List Str := ([("_law_cup" : Str), ("_law_toss" : Str), ("_law_choices" : Str), ("_law_alphabet" : Str), ("_law_choice" : Str), ("_law_rates" : Str), ("_law_spelled" : Str), ("_law_priced" : Str)] : List Str) ++ ([("_law_step_drawn" : Str), ("_law_made" : Str), ("_law_steps_drawn" : Str), ("_law_run" : Str), ("_law_paid" : Str), ("_law_way_back" : Str), ("_law_told_by" : Str), ("_law_row_right" : Str)] : List Str) ++ ([("_law_strange" : Str), ("_law_spoiled" : Str), ("law" : Str)] : List Str)
def ex05c (K : PySem.W.Frag) : Bool := gloAll K glo05c && (mkB05 K)
def defs05d : List He5.DefA := []
def glo05d : List Str := ([("InvalidChange" : Str), ("InvalidOperation" : Str)] : List Str)
def ex05d (K : PySem.W.Frag) : Bool := gloAll K glo05d && ((He.Fa.exc "InvalidChange").ok K && ((He.Fa.exc "InvalidOperation").ok K && (exmB K [He.ga K "InvalidChange", He.ga K "InvalidOperation"])))
def ps05 : List LookE := [(ex05a, defs05a, []), (ex05b, defs05b, []), (ex05c, defs05c, []), (ex05d, defs05d, [])]
set_option maxHeartbeats 0 in
theorem runL05 : RunL R05 20000 := by
  intro w os
  kernel_rfl
set_option maxHeartbeats 0 in
theorem runN05 : RunN R05 20000 (PySem.W.view R05.prog [53]) names05 := by
  intro w os
  kernel_rfl
set_option maxHeartbeats 0 in
theorem runP05a : RunE R05 20000 1400 (ex05a, defs05a, []) := by
  intro w os
  kernel_rfl
set_option maxHeartbeats 0 in
theorem runP05b : RunE R05 20000 1400 (ex05b, defs05b, []) := by
  intro w os
  kernel_rfl
set_option maxHeartbeats 0 in
theorem runP05c : RunE R05 20000 1400 (ex05c, defs05c, []) := by
  intro w os
  kernel_rfl
set_option maxHeartbeats 0 in
theorem runP05d : RunE R05 20000 1400 (ex05d, defs05d, []) := by
  intro w os
  kernel_rfl
set_option maxHeartbeats 0 in
theorem runT05 : RunT R05 20000 1400 mk05 := by
  intro w os
  kernel_rfl
theorem run05 (w : World) : HandSHeadRun.RunEq R05 (PySem.W.view R05.prog [53]) (hookT 1400 ps05 mk05) (obT 1400 ps05 mk05) 20000 names05 w := runT_of R05 20000 runL05 runN05 (fun p hp => by
  simp only [ps05, List.mem_cons, List.not_mem_nil, or_false] at hp
  rcases hp with rfl | rfl | rfl | rfl
  · exact runP05a
  · exact runP05b
  · exact runP05c
  · exact runP05d) runT05 w
end MN
/-! the facts and the end -/
namespace MN
open PySem PySem.Spec PyProof.Rows L2 MNE
section
variable {P : Program} {w : World} {K : PySem.W.Frag} {h : Heap} {mg : Str → Option Value}
theorem at05 {ex : PySem.W.Frag → Bool} {defs : List He5.DefA} {glo : List Str} (X : K.In h) (G : h.Ns mainGlobals mg) (c : SaysX ex defs K) (hg : gloAll K glo = true) (i : Nat) (x : Str) (st : Stmt) (hi : defs[i]? = some (gDef x st)) (hx : x ∈ glo) : At K mg x st := by
  obtain ⟨fd, F⟩ := c.def_ i hi
  exact ⟨_, fd, F, gloAll_ok X G hg hx⟩
theorem atC05 {ex : PySem.W.Frag → Bool} {defs : List He5.DefA} {glo : List Str} (X : K.In h) (G : h.Ns mainGlobals mg) (c : SaysX ex defs K) (hg : gloAll K glo = true) (i : Nat) (x : Str) (st : Stmt) (hi : defs[i]? = some (gDef x st)) (hx : x ∈ glo) (b : mkB K x = true) : AtC K mg x st (cdX K x) := by
  obtain ⟨fd, F⟩ := c.def_ i hi
  exact atC_of F (gloAll_ok X G hg hx) b
theorem facts05 {f : Addr} (X : K.In h) (G : h.Ns mainGlobals mg) (hfa : mg ("law" : Str) = some (.ref f)) (cc : ∀ p ∈ ps05, SaysE p K) (hfile : P.main.file = (PySem.Challenge.rw_mendnumber_k05_changes_told).prog.main.file) (htop : (P.main.scope.names.lookup ("super" : Str)).isSome = false) :
    ∃ fd : FuncData, (∀ p ∈ cs05 K, K.lookup p.2 = none) ∧ (∀ p ∈ cs05 K, PySem.W.CodeHd h p.1 p.2) ∧ (∀ (s : Shared) (v : Value), BindsTo s fd ⟨[v], []⟩ [("_law_script", v)]) ∧ ∀ base : Heap, K.In base → base.Ns mainGlobals mg → (∀ p ∈ cs05 K, LamX.TabB base mg p.1 p.2) → FnG P w K mg base 10 f fd ["_law_script"] (spLaw05 K (T05 K)) := by
  have ca_ := cc (ex05a, defs05a, []) List.mem_cons_self
  have sa : SaysX ex05a defs05a K := ca_.x
  obtain ⟨ga, e⟩ := He.ba sa.all
  obtain ⟨a0, e⟩ := He.ba e
  obtain ⟨a1, e⟩ := He.ba e
  obtain ⟨a2, e⟩ := He.ba e
  obtain ⟨a3, e⟩ := He.ba e
  obtain ⟨a4, e⟩ := He.ba e
  have a5 := e
  clear e
  have cb_ := cc (ex05b, defs05b, []) (List.mem_cons_of_mem _ List.mem_cons_self)
  have sb : SaysX ex05b defs05b K := cb_.x
  obtain ⟨gb, e⟩ := He.ba sb.all
  have b0 := e
  clear e
  have cc_ := cc (ex05c, defs05c, []) (List.mem_cons_of_mem _ (List.mem_cons_of_mem _ List.mem_cons_self))
  have sc : SaysX ex05c defs05c K := cc_.x
  obtain ⟨gc, e⟩ := He.ba sc.all
  have c0 := e
  clear e
  have cd_ := cc (ex05d, defs05d, []) (List.mem_cons_of_mem _ (List.mem_cons_of_mem _ (List.mem_cons_of_mem _ List.mem_cons_self)))
  have sd : SaysX ex05d defs05d K := cd_.x
  obtain ⟨gd, e⟩ := He.ba sd.all
  obtain ⟨d0, e⟩ := He.ba e
  obtain ⟨d1, e⟩ := He.ba e
  have d2 := e
  clear e
  have G_GREATEST := intC_ok X G a2
  have G_MAX_WORD := intC_ok X G a3
  have G_MAX_PRICE := intC_ok X G a4
  have G_MAX_SWAP := intC_ok X G a5
  have B : Blt mg := Blt.of (freeAll_ok X G a0) (strC_ok X G a1)
  have G_Prices : GlC mg "Prices" (.ref (He.ga K "Prices")) := ⟨_, (gloAll_ok X G gb (x := "Prices") (by decide +kernel)), rfl⟩
  have EK_InvalidChange : ErK K mg "InvalidChange" (He.ga K "InvalidChange") := erK_ok (gloAll_ok X G gd (x := "InvalidChange") (by decide +kernel)) d0
  have EK_InvalidOperation : ErK K mg "InvalidOperation" (He.ga K "InvalidOperation") := erK_ok (gloAll_ok X G gd (x := "InvalidOperation") (by decide +kernel)) d1
  have E5 : Ers5 K mg (He.ga K "InvalidChange") (He.ga K "InvalidOperation") := ers5_ok d2 EK_InvalidChange.g EK_InvalidOperation.g
  obtain ⟨PF0d, PF0⟩ := sb.def_ 0
  obtain ⟨PF1d, PF1⟩ := sb.def_ 1
  obtain ⟨PF2d, PF2⟩ := sb.def_ 2
  obtain ⟨PF3d, PF3⟩ := sb.def_ 3
  have PP := prP_ok (mg := mg) b0 (gloAll_ok X G gb (x := "Prices") (by decide +kernel)) PF0 PF1 PF2 PF3
  obtain ⟨fd, F⟩ := sc.def_ 18
  have e := hfa.symm.trans (gloAll_ok X G gc (x := "law") (by decide +kernel))
  cases e
  have b := FunD.bindsA (ps := ["_law_script"]) F fun _ _ _ _ _ _ us hl => match us, hl with | [_], _ => rfl
  refine ⟨fd, (cs05_ok X c0).1, (cs05_ok X c0).2, fun s v => b s [v] rfl, fun base _ _ tb => ?_⟩
  have aa := fun i x st hi hx => at05 (mg := mg) (glo := glo05a) X G sa ga i x st hi hx
  have ab := fun i x st hi hx => at05 (mg := mg) (glo := glo05b) X G sb gb i x st hi hx
  have ac := fun i x st hi hx => at05 (mg := mg) (glo := glo05c) X G sc gc i x st hi hx
  have ad := fun i x st hi hx => at05 (mg := mg) (glo := glo05d) X G sd gd i x st hi hx
  have h_c_is_integer := MN.c_is_integer (P := P) (w := w) (K := K) (mg := mg) (base := base)  (aa 0 _ _ rfl (by decide +kernel)) B G_GREATEST
  have h_c_is_sign := MN.c_is_sign (P := P) (w := w) (K := K) (mg := mg) (base := base)  (aa 1 _ _ rfl (by decide +kernel)) B
  have h_c_is_word := MN.c_is_word (P := P) (w := w) (K := K) (mg := mg) (base := base)  (aa 2 _ _ rfl (by decide +kernel)) B
  have h_c_require_word := MN.c_require_word (P := P) (w := w) (K := K) (mg := mg) (base := base)  (aa 3 _ _ rfl (by decide +kernel)) B G_MAX_WORD h_c_is_word
  have h_c_is_price := MN.c_is_price (P := P) (w := w) (K := K) (mg := mg) (base := base)  (aa 4 _ _ rfl (by decide +kernel)) h_c_is_integer
  have h_c_is_pair := MN.c_is_pair (P := P) (w := w) (K := K) (mg := mg) (base := base)  (aa 5 _ _ rfl (by decide +kernel)) B h_c_is_sign
  have h_c_are_prices := MN.c_are_prices (P := P) (w := w) (K := K) (mg := mg) (base := base)  (aa 6 _ _ rfl (by decide +kernel)) B G_MAX_PRICE G_MAX_SWAP h_c_is_sign h_c_is_price h_c_is_pair
  have h_c_require_pricesP := MN.c_require_pricesP (P := P) (w := w) (K := K) (mg := mg) (base := base)  (aa 7 _ _ rfl (by decide +kernel)) B PP
  have h_c_is_place := MN.c_is_place (P := P) (w := w) (K := K) (mg := mg) (base := base)  (aa 8 _ _ rfl (by decide +kernel)) h_c_is_integer
  have h_c_made_by := MN.c_made_by (P := P) (w := w) (K := K) (mg := mg) (base := base)  (aa 9 _ _ rfl (by decide +kernel)) B h_c_is_place h_c_is_sign
  have h_c_words_along := MN.c_words_along (P := P) (w := w) (K := K) (mg := mg) (base := base)  (aa 10 _ _ rfl (by decide +kernel)) B h_c_made_by
  have h_x_require_changes := MN.x_require_changes (P := P) (w := w) (K := K) (mg := mg) (base := base)  (aa 11 _ _ rfl (by decide +kernel)) EK_InvalidChange h_c_words_along
  have h_x_changed := MN.x_changed (P := P) (w := w) (K := K) (mg := mg) (base := base)  (aa 12 _ _ rfl (by decide +kernel)) h_c_require_word h_x_require_changes
  have h_c_taken_back := MN.c_taken_back (P := P) (w := w) (K := K) (mg := mg) (base := base)  (aa 13 _ _ rfl (by decide +kernel)) B
  have h_x_undone := MN.x_undone (P := P) (w := w) (K := K) (mg := mg) (base := base)  (aa 14 _ _ rfl (by decide +kernel)) B h_c_require_word h_x_require_changes h_c_taken_back
  have h_c_price_of_change := MN.c_price_of_change (P := P) (w := w) (K := K) (mg := mg) (base := base)  (aa 15 _ _ rfl (by decide +kernel)) B PP
  have h_c_prices_along := MN.c_prices_along (P := P) (w := w) (K := K) (mg := mg) (base := base)  (aa 16 _ _ rfl (by decide +kernel)) B h_c_price_of_change
  have h_x_price_of := MN.x_price_of (P := P) (w := w) (K := K) (mg := mg) (base := base)  (aa 17 _ _ rfl (by decide +kernel)) B EK_InvalidOperation h_c_require_word h_x_require_changes h_c_require_pricesP h_c_prices_along
  have h_c_law_cup := MN.c_law_cup (P := P) (w := w) (K := K) (mg := mg) (base := base)  (ac 0 _ _ rfl (by decide +kernel)) B
  have h_c_law_toss := MN.c_law_toss (P := P) (w := w) (K := K) (mg := mg) (base := base)  (ac 1 _ _ rfl (by decide +kernel)) B
  have h_c_law_choices := MN.c_law_choices (P := P) (w := w) (K := K) (mg := mg) (base := base)  (ac 2 _ _ rfl (by decide +kernel)) B h_c_law_toss
  have h_c_law_alphabet := MN.c_law_alphabet (P := P) (w := w) (K := K) (mg := mg) (base := base)  (ac 3 _ _ rfl (by decide +kernel)) B h_c_law_toss h_c_law_choices
  have h_c_law_choice := MN.c_law_choice (P := P) (w := w) (K := K) (mg := mg) (base := base)  (ac 4 _ _ rfl (by decide +kernel)) B h_c_law_toss
  have h_c_law_rates := MN.c_law_rates (P := P) (w := w) (K := K) (mg := mg) (base := base)  (ac 5 _ _ rfl (by decide +kernel)) B h_c_law_toss h_c_law_choice
  have h_c_law_spelled5 := MN.c_law_spelled5 (P := P) (w := w) (K := K) (mg := mg) (base := base)  (ac 6 _ _ rfl (by decide +kernel)) B h_c_law_toss h_c_law_choice
  have h_c_law_pricedP := MN.c_law_pricedP (P := P) (w := w) (K := K) (mg := mg) (base := base)  (ac 7 _ _ rfl (by decide +kernel)) B PP h_c_are_prices
  have h_c_law_step5 := MN.c_law_step5 (P := P) (w := w) (K := K) (mg := mg) (base := base)  (ac 8 _ _ rfl (by decide +kernel)) B h_c_law_toss h_c_law_choice
  have h_c_law_made5 := MN.c_law_made5 (P := P) (w := w) (K := K) (mg := mg) (base := base)  (ac 9 _ _ rfl (by decide +kernel)) B
  have h_c_law_steps5 := MN.c_law_steps5 (P := P) (w := w) (K := K) (mg := mg) (base := base)  (ac 10 _ _ rfl (by decide +kernel)) B h_c_law_toss h_c_law_step5 h_c_law_made5
  have h_c_law_run5 := MN.c_law_run5 (P := P) (w := w) (K := K) (mg := mg) (base := base)  (ac 11 _ _ rfl (by decide +kernel)) B h_c_law_made5
  have h_c_law_paid5 := MN.c_law_paid5 (P := P) (w := w) (K := K) (mg := mg) (base := base)  (ac 12 _ _ rfl (by decide +kernel)) B
  have h_c_law_wb5 := MN.c_law_wb5 (P := P) (w := w) (K := K) (mg := mg) (base := base)  (ac 13 _ _ rfl (by decide +kernel)) B
  have h_c_law_row_right5 := MN.c_law_row_right5 (P := P) (w := w) (K := K) (mg := mg) (base := base)  (atC05 (mg := mg) (glo := glo05c) X G sc gc 15 _ _ rfl (by decide +kernel) (mkB05_of c0 (by decide +kernel))) (mkT05 c0 tb (by decide +kernel)) (ac 14 _ _ rfl (by decide +kernel)) E5 B h_c_law_run5 h_c_law_paid5 h_c_law_wb5 h_x_changed h_x_undone h_x_price_of
  have h_c_law_strange5 := MN.c_law_strange5 (P := P) (w := w) (K := K) (mg := mg) (base := base)  (ac 16 _ _ rfl (by decide +kernel)) B h_c_law_choice
  have h_c_law_spoil5 := MN.c_law_spoil5 (P := P) (w := w) (K := K) (mg := mg) (base := base)  (ac 17 _ _ rfl (by decide +kernel)) B h_c_law_toss h_c_law_run5 h_c_law_strange5
  exact f_law05 F B h_c_law_cup h_c_law_toss h_c_law_alphabet h_c_law_rates h_c_law_spelled5 h_c_law_pricedP h_c_law_steps5 h_c_law_spoil5 h_c_law_row_right5
end
end MN
open PySem PySem.W PySem.Calls PyProof.Rows
set_option maxHeartbeats 0 in
theorem PySem.Challenge.cw_mendnumber_k05_changes_told_holds : PySem.Challenge.rw_mendnumber_k05_changes_told.Holds := by
  w_on; o_law
  refine HandSHeadRun.head_any (r := OpenLaw.row PySem.Challenge.rw_mendnumber_k05_changes_told) (q := view (OpenLaw.row PySem.Challenge.rw_mendnumber_k05_changes_told).prog [53]) (H := MN.hookT 1400 MN.ps05 MN.mk05) (ob := MN.obT 1400 MN.ps05 MN.mk05) (M := 20000) (loose := MN.names05) (d := HandSHeadRun.topDef (OpenLaw.row PySem.Challenge.rw_mendnumber_k05_changes_told).prog 53) (kwd := []) (MN.obT_eq 1400 MN.ps05 MN.mk05)
    (by kernel_rfl) (fun s => by kernel_rfl) MN.run05 (by kernel_rfl) (by kernel_rfl) (by kernel_rfl) (by rfl) (by first | assumption | decide +kernel) (by decide +kernel) ⟨rfl, rfl, rfl, rfl, rfl, by decide +kernel⟩ ?hw ?hc
  case hw => w_witness2
  case hc =>
    refine MN.walk_gT (l := PySem.Challenge.rw_mendnumber_k05_changes_told) (n := 63) (k := 10) (x := "_law_script") rfl (by decide) (by kernel_rfl) ⟨rfl, by decide, by decide⟩ ?F
    intro w mg fa h Y G hmg0
    obtain ⟨K, KX, c, tt⟩ := Y
    have hmg : mg ("law" : PySem.Str) = some (.ref fa) := by
      have e : (HandSHeadRun.topDef (OpenLaw.row PySem.Challenge.rw_mendnumber_k05_changes_told).prog 53).name = ("law" : PySem.Str) := by kernel_rfl
      rw [← e]
      exact hmg0
    obtain ⟨fd, h2, h3, hb, hF⟩ := MN.facts05 (P := (PySem.Challenge.rw_mendnumber_k05_changes_told).prog) (w := w) KX G hmg c rfl (by kernel_rfl)
    exact ⟨K, fd, MN.cs05 K, MN.spLaw05 K (MN.T05 K), KX, fun p hp => by
      obtain ⟨x, hx, rfl⟩ := List.mem_map.mp hp
      exact tt x hx, h2, h3, hb, fun H a ns hl hH hS => ⟨a, ns, rfl, hS, Nat.le_trans hl (by decide), MN.tabs05 hH, fun _ => rfl⟩, hF⟩
