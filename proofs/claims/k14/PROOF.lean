import PyProof.Rows.All
import Wide.All
import OpenK.AllK
import Wide.FinOn
import HandS.ForMost
import HandS.Wide
import HandS.WideBits
import HandS.IsInst
import HandS.Property
import HandS.ClsMeth
import HandS.FStr
import HandS.MakeKw
import HandS.Flow
import HandS.RaiseMore
import PyProof.ReprRoads
import PyProof.InstEq
import KE.KCallOwn
import KE.KFmtOwn
import HandS.SlotsOwn
import PyProof.ReprNest
import PyProof.StrHeap
import HandS.Defaults
import HandS.MakeKwOnly
import HandS.Walk
import KE.KStateDown
import KE.KIsAll
import HandS.Head0
import HandS.Head1
import HandS.Head2
import HandS.HeadHook1
import HandS.HeadHook2
import HandS.Zip
import HandS.Style
import HandS.Star
import KE.GoesEnum
import HandS.TupAny
import HandS.Words
import HandS.Strs
import KE.KRevSl
import KE.KOpsOwn
import HandS.NoneIn
import HandS.SortRule
import HandS.TupSets
import HandS.Conv
import HandS.CallLocal
import HandS.Text
import PySem.Challenge.RW_movecells_k14_plans_told
set_option Elab.async false
set_option maxRecDepth 100000
set_option maxHeartbeats 4000000
namespace Mv
open PySem PySem.Spec PyProof.Rows L2
section
variable {X : Cx}
/-- // by any divisor but 0 below 2 ^ 9000 -/
def CDivX (_ j : Int) : Prop := j ≠ 0 ∧ j.natAbs.log2 < 9000
theorem op_fdivX : OpR X (binaryOp .FloorDiv) (rI CDivX fun i j => .int (i.fdiv j)) := opI fun i j _ _ _ _ _ hc q => by
  exact floordiv_int hc.1 q (Or.inl (PyProof.noPylong_of_log2 hc.2))
theorem divp_of {i j : Int} (h : 0 < j) (h2 : j.natAbs.log2 < 9000) : CDivP i j := ⟨h, PyProof.noPylong_of_log2 h2⟩
end
/-! ### guards: no repr is running -/
abbrev GA (A : Around) : Prop := A.guards = some []
theorem ga_deeper {A : Around} {env : Env} (h : GA A) : GA (A.deeper env) := h
theorem ga_make {A : Around} (h : GA A) (C : Addr) (us : List Value) (kw : List (Str × Value)) : GA (A.under (.builtin "type.__call__" ⟨.ref C :: us, kw⟩)) := by
  first | exact h | (simpa [GA, Around.under, Code.guards, Code.isGuard, guardIds, pushGuards] using h)
theorem ga_in1 {A : Around} (h : GA A) : GA A.in1 := h
/-- a def that may be called where no repr is running -/
structure FnG (P : Program) (w : World) (K : PySem.W.Frag) (mg : Str → Option Value) (base : Heap) (k : Nat) (f : Addr) (fd : FuncData) (ps : List Str) (sp : Sp) : Prop where
  len : ∀ vs H Q E, sp vs H Q E → vs.length = ps.length
  run : ∀ (A : Around) (outer : List Env) (s : Shared) (H : Hp) (args : Args) (us : List Value) (vs : List V) (Q : VK) (E : XK), Room k A → GA A → Env0 P w K mg base A outer s H → BindsTo s fd args (ps.zip us) → Vals vs us → sp vs H Q E →
    codeAny (model P w) A (.call (.ref f) args) (CR CX0 outer P w H s Q E) s
theorem FnG.of {P : Program} {w : World} {K : PySem.W.Frag} {mg : Str → Option Value} {base : Heap} {k : Nat} {f : Addr} {fd : FuncData} {ps : List Str} {sp : Sp} (F : FnOk P w K mg base CX0 k f fd ps sp) : FnG P w K mg base k f fd ps sp :=
  ⟨F.len, fun A outer s H args us vs Q E hr _ => F.run A outer s H args us vs Q E hr⟩
theorem FnG.mono {P : Program} {w : World} {K : PySem.W.Frag} {mg : Str → Option Value} {base : Heap} {j k : Nat} {f : Addr} {fd : FuncData} {ps : List Str} {sp : Sp} (F : FnG P w K mg base j f fd ps sp) (h : j ≤ k) : FnG P w K mg base k f fd ps sp :=
  ⟨F.len, fun A outer s H args us vs Q E hr => F.run A outer s H args us vs Q E (hr.mono h)⟩
section
variable {X : Cx} {k : Nat} {f C : Addr} {fd : FuncData} {ps ks : List Str} {sp : Sp} {dvs : List V} {ds : List Value} {x m : Str} {p pos apos : Pos} {e o : Expr} {es : List Expr} {kws : List Keyword} {ta : TE} {t tk : TA}
  {g : List Value → List Value → List Value} {gV : List V → List V → List V}
theorem run_fng {pins : List (Addr × Obj)} {σ : L2.St} {H : Hp} {s : Shared} {Q : VK} {us : List Value} {vs : List V} (F : FnG X.prog X.w X.K X.mg X.base k f fd ps sp) (hr : Room k X.A) (ga : GA X.A) (hb : Binds X.K fd ps ds) (hd : Vals dvs ds)
    (I : Inv X pins σ H s) (r : Vals vs us) (h : sp (vs ++ dvs) H Q E0) : wpAny (model X.prog X.w) X.A (call (.ref f) us) (EP X pins σ Q) X.xe s := by
  have r2 : Vals (vs ++ dvs) (us ++ ds) := r.append hd
  have hl : (us ++ ds).length = ps.length := by rw [← r2.length]; exact F.len _ _ _ _ h
  refine wpAny_call (codeAny_mono (F.run X.A X.stack s H ⟨us, []⟩ (us ++ ds) (vs ++ dvs) Q E0 hr ga I.env0 (hb s us I.kIn hl) r2 h) fun r s' hq => ?_)
  cases r with
  | error e => exact False.elim hq
  | ok fl =>
    cases fl with
    | ret u => exact I.after hq
    | next => exact False.elim hq
    | brk => exact False.elim hq
    | cont => exact False.elim hq
theorem run_fngk {pins : List (Addr × Obj)} {σ : L2.St} {H : Hp} {s : Shared} {Q : VK} {us ws : List Value} {vs zs : List V} (F : FnG X.prog X.w X.K X.mg X.base k f fd ps sp) (hr : Room k X.A) (ga : GA X.A) (hb : KBinds X.K fd ps ks g gV)
    (I : Inv X pins σ H s) (r : Vals vs us) (rz : Vals zs ws) (h : sp (gV vs zs) H Q E0) : wpAny (model X.prog X.w) X.A (call (.ref f) us (ks.zip ws)) (EP X pins σ Q) X.xe s := by
  have r2 := hb.rel r rz
  have hl : (g us ws).length = ps.length := by rw [← r2.length]; exact F.len _ _ _ _ h
  refine wpAny_call (codeAny_mono (F.run X.A X.stack s H ⟨us, ks.zip ws⟩ (g us ws) (gV vs zs) Q E0 hr ga I.env0 (hb.to s us ws I.kIn hl) r2 h) fun r s' hq => ?_)
  cases r with
  | error e => exact False.elim hq
  | ok fl =>
    cases fl with
    | ret u => exact I.after hq
    | next => exact False.elim hq
    | brk => exact False.elim hq
    | cont => exact False.elim hq
end
/-- a def of the module, by its name -/
structure Cg (P : Program) (w : World) (K : PySem.W.Frag) (mg : Str → Option Value) (base : Heap) (k : Nat) (x : Str) (ps : List Str) (sp : Sp) (dvs : List V) : Prop where
  ex : ∃ (f : Addr) (fd : FuncData) (ds : List Value), FnG P w K mg base k f fd ps sp ∧ mg x = some (.ref f) ∧ PySem.W.keepIn K (.ref f) = true ∧ Binds K fd ps ds ∧ Vals dvs ds
section
variable {X : Cx} {k j : Nat} {f C : Addr} {fd : FuncData} {ps ks : List Str} {sp : Sp} {dvs : List V} {ds : List Value} {x m : Str} {p pos apos : Pos} {e o : Expr} {es : List Expr} {kws : List Keyword} {ta : TE} {t tk : TA}
theorem pe_g (c : Cg X.prog X.w X.K X.mg X.base k x ps sp dvs) (hr : Room j X.A) (ga : GA X.A) (hk : k ≤ j) (hg : Gl X x) (ha : PA X (e :: es) t)
    (hdb : (x == ("__debug__" : Str)) = false := by decide) (he : starEach (e :: es) X.env = (false, eval e X.env) :: starEach es X.env := by rfl) (hpl : (backTo pos (starEach es X.env)).any (·.1) = false := by rfl) :
    PE X (.Call (.Name x p) (e :: es) [] pos) (tCall sp dvs E0 t) := by
  obtain ⟨f, fd, ds, F, hm, kp, hb, hd⟩ := c.ex
  refine ⟨fun pins s σ H Q I h => ?_⟩
  refine wpAny_Call_Name_kw (ld_glob I hg hm ?_ hdb)
  exact PySem.W.callWith_K (h₀ := X.base) I.ok.mod.kin kp (thn (ha.run pos pins s σ H _ I h) fun us s1 ⟨vs, H1, I1, r, q⟩ => ⟨I1.kIn, run_fng F (hr.mono hk) ga hb hd I1 r q⟩) he hpl
theorem pe_g0 (c : Cg X.prog X.w X.K X.mg X.base k x ps sp dvs) (hr : Room j X.A) (ga : GA X.A) (hk : k ≤ j) (hg : Gl X x) (hdb : (x == ("__debug__" : Str)) = false := by decide) : PE X (.Call (.Name x p) [] [] pos) (tCall sp dvs E0 tNil) := by
  obtain ⟨f, fd, ds, F, hm, kp, hb, hd⟩ := c.ex
  refine ⟨fun pins s σ H Q I h => ?_⟩
  refine wpAny_Call_Name_kw (ld_glob I hg hm ?_ hdb)
  exact PySem.W.callWith_K0 I.kIn kp (run_fng (us := []) F (hr.mono hk) ga hb hd I .nil h)
end
section
variable {P : Program} {w : World} {K : PySem.W.Frag} {mg : Str → Option Value} {base : Heap}
/-- THE RULE for a def where no repr is running -/
theorem fng_of {k : Nat} {f : Addr} {name qual : Str} {params : Arguments} {body : List Stmt} {scope : Scope} {dV kV doc pm cdv ct oc : Value} {an od : Option Addr}
    {osl : Array (Option Value)} {N ps : List Str} {sp : Sp} (lk : K.lookup f = some ⟨oc, od, .func (PySem.W.fnOf name qual params body scope dV kV doc pm an cdv ct), osl⟩) (hcd : PySem.W.codeIn K cdv qual = true) (S : FnScope N ps scope)
    (len : ∀ vs H Q E, sp vs H Q E → vs.length = ps.length)
    (hbody : ∀ (A : Around) (outer : List Env) (s : Shared) (H : Hp) (vs : List V) (Q : VK) (E : XK), Room k (A.deeper (envOfC qual scope s.heap.objs.size f cdv)) → GA (A.deeper (envOfC qual scope s.heap.objs.size f cdv)) → sp vs H Q E →
      ∃ t, PSs (cxOf CX0 P w K mg base N qual scope f cdv A outer s H E) body t ∧ t { nx := fun _ H' => Q .non H', rt := Q } (start N vs) H) :
    FnG P w K mg base (k + 1) f (PySem.W.fnOf name qual params body scope dV kV doc pm an cdv ct) ps sp := by
  refine ⟨len, fun A outer s H args us vs Q E hr ga e0 hb r hsp => ?_⟩
  have hl := len _ _ _ _ hsp
  have KX : K.In s.heap := e0.mod.kin.keeps fun b o e => (e0.bs b o e).1
  have lim : s.heap.NoLimit := e0.mod.nolimit.keeps fun b o e => (e0.bs b o e).1
  have hkind : ∀ y ∈ ps.zip us, scope.names.lookup y.1 = some .local ∨ (scope.names.lookup y.1 = some .cell ∧ ((cellsFrom (s.heap.objs.size + 1) scope.names []).lookup y.1).isSome = true) := fun ⟨n, v⟩ hy => by
    rcases S.par n (List.of_mem_zip hy).1 with q | q
    · exact .inl q
    · exact .inr ⟨q, PySem.W.cellsFrom_some _ _ _ (.inl q)⟩
  refine codeAny_call_function hr.depth (KX _ _ lk) rfl S.co S.gen rfl (PySem.W.codeRec_of KX hcd) (hb _ _ _ _ ?_)
  refine wpAny_newFunctionEnv_cells S.kind hkind fun env he s1 x => ?_
  subst he
  refine ⟨lim.keeps x.toInCall.keep, codeAny_func ?_⟩
  obtain ⟨t, ht, hq⟩ := hbody A outer s H vs Q E (hr.deeper _) (ga_deeper ga) hsp
  have I : Inv (cxOf CX0 P w K mg base N qual scope f cdv A outer s H E) [] (start N vs) H s1 := inv_start S hr.hd e0 hl r x
  refine wpAny_mono (ht.run [] s1 (start N vs) H _ I hq) (fun fl s' hs => ?_) fun e s' hs => hs
  have fin : ∀ {σ' : L2.St} {H' : Hp} {v : V} {u : Value}, Inv (cxOf CX0 P w K mg base N qual scope f cdv A outer s H E) [] σ' H' s' → RelV v u → Q v H' → CE outer P w H s Q u s' :=
    fun {σ' H' v u} J rv q => ⟨v, H', J.os, J.bare, J.base, J.hok, rv, q⟩
  cases fl with
  | ret u =>
    obtain ⟨v, σ', H', J, rv, q⟩ := hs
    exact fin J rv q
  | next =>
    obtain ⟨σ', H', J, q⟩ := hs
    exact fin (v := V.non) (u := Value.none) J rfl q
  | brk =>
    obtain ⟨_, _, _, q⟩ := hs
    exact False.elim q
  | cont =>
    obtain ⟨_, _, _, q⟩ := hs
    exact False.elim q
theorem okG {x qual : Str} {st : Stmt} {f : Addr} {fd : FuncData} {N ps : List Str} {k : Nat} {sp : Sp} (F : Fun K x qual st f fd) (S : FnScope N ps (defScope st)) (len : ∀ vs H Q E, sp vs H Q E → vs.length = ps.length)
    (hbody : ∀ (cdv : Value) (A : Around) (outer : List Env) (s : Shared) (H : Hp) (vs : List V) (Q : VK) (E : XK), Room k (A.deeper (envOfC qual (defScope st) s.heap.objs.size f cdv)) → GA (A.deeper (envOfC qual (defScope st) s.heap.objs.size f cdv)) → sp vs H Q E →
      ∃ t, PSs (cxOf CX0 P w K mg base N qual (defScope st) f cdv A outer s H E).nox (defBody st) t ∧ t { nx := fun _ H' => Q .non H', rt := Q } (start N vs) H) : FnG P w K mg base (k + 1) f fd ps sp := by
  obtain ⟨oc, od, kV, doc, pm, an, cdv, ct, osl, rfl, lk, hcd⟩ := F.ex
  refine fng_of lk hcd S len fun A outer s H vs Q E hr ga hsp => ?_
  obtain ⟨t, h, q⟩ := hbody cdv A outer s H vs Q E hr ga hsp
  exact ⟨t, h.nox, q⟩
end
end Mv
set_option Elab.async false
set_option maxRecDepth 100000
set_option maxHeartbeats 4000000
namespace PySem.W
open PySem PySem.Spec PySem.Calls PyProof.Rows
section
variable {prog : Program} {w : World} {A : Around} {E : Value → Shared → Prop} {s : Shared} {K : Frag} {x C f : Addr} {ox : Obj} {od : Option Obj} {b tb : Value}
/-- x != b by object.__ne__ over an own __eq__ -/
theorem mv_ne {Q : Value → Shared → Prop} (hu : A.units + 1 < cLine) (X : K.In s.heap) (I : InstAt s.heap x ox C od) (hb : Looks (model prog w) s.heap (typeOf b) tb) (hn : notFirst K C tb = true)
    (hne : findIn K (.ref C) "__ne__" = some (some (.builtin "object.__ne__"))) (hm : mroIn K C (.type "object") = some true) (hs : findIn K (.ref C) "__eq__" = some (some (.ref f))) (hf : isFn K (.ref f) = true)
    (h : wpAny (model prog w) A.in1 (call (.ref f) [.ref x, b]) (fun v s' => ∃ k, v = .bool k ∧ Q (.bool (!k)) s') E s) : wpAny (model prog w) A (richCompare .NotEq (.ref x) b) Q E s := by
  have one : wpAny (model prog w) A (tryCompare (.ref x) "__ne__" b) (fun r s' => ∃ v, r = some v ∧ Q v s') E s := by
    unfold tryCompare
    have inner : wpAny (model prog w) A (call (.builtin "object.__ne__") [.ref x, b]) (fun v s' => ∃ k, v = .bool k ∧ Q v s') E s := by
      refine wpAny_call (codeAny_call_builtin PySem.F.cmp_object.ne.plain PySem.F.cmpEntry_ne (check_slot (i := "object.__ne__") (owner := "object") (n := "__ne__") (by decide +kernel) (by decide +kernel) (I.type.andThen (looks_mroIn X hm)) (PySem.F.cmpArgs_ne _ _) ?_))
      unfold Builtin.«object.__ne__»
      refine wpAny_bind (m := slotArgs "__ne__" 1 _) (wpAny_pure ?_)
      refine wpAny_bind (m := cRoomFor _ _) (wpAny_cRoomFor hu ?_)
      refine wpAny_bind (m := callSpecialIfBound? (.ref x) (Str.ofString "__eq__") _) (ifBound_K X I hs hf (wpAny_mono h (fun r s' hq => ?_) fun _ _ y => y))
      obtain ⟨k, rfl, hq⟩ := hq
      exact wpAny_bind (wpAny_truthy_bool (wpAny_pure ⟨_, rfl, hq⟩))
    have sp : wpAny (model prog w) A (callSpecialIfBound? (.ref x) "__ne__" [b]) (fun r s' => ∃ k, r = some (.bool k) ∧ Q (.bool k) s') E s := by
      simp only [callSpecialIfBound?, bindSpecialIfBound?]
      refine wpAny_holding (wpAny_bind (wpAny_bind (wpAny_bind (I.type.here ((looks_findIn X hne).here ?_)))))
      simp only [PySem.F.cmp_object.ne.bind]
      refine wpAny_bind (wpAny_askSetting (wpAny_ite ?_))
      have fin : wpAny (model prog w) A (call (.builtin "object.__ne__") ([.ref x] ++ [b]) >>= fun v => pure (some v)) (fun r s' => ∃ k, r = some (.bool k) ∧ Q (.bool k) s') E s :=
        wpAny_bind (wpAny_mono inner (fun v s' h' => by obtain ⟨k, rfl, q⟩ := h'; exact wpAny_pure ⟨k, rfl, q⟩) fun _ _ h' => h')
      split
      · exact wpAny_bind (wpAny_pure (wpAny_pure fin))
      · exact wpAny_tryCatch (wpAny_bind (wpAny_pure (wpAny_pure fin)))
    refine wpAny_bind (wpAny_mono sp (fun r s' hr => ?_) fun _ _ e => e)
    obtain ⟨k, rfl, q⟩ := hr
    exact wpAny_pure ⟨_, rfl, q⟩
  unfold richCompare
  simp only [oneThing_ref]
  refine wpAny_holding (wpAny_bind (wpAny_cRoomFor (by omega) ?_))
  refine wpAny_bind (I.type.here (wpAny_bind (hb.here ?_)))
  split
  · rename_i q
    have e : subIn K tb (.ref C) = some false := by
      rcases Bool.or_eq_true_iff.mp hn with e | e
      · rw [beq_iff_eq.mp e] at q; simp at q
      · exact beq_iff_eq.mp e
    refine wpAny_bind ((looks_subIn X e).here ?_)
    simp only [Bool.false_eq_true, if_false]
    refine wpAny_bind (wpAny_mono one (fun r s' z => ?_) fun _ _ e => e)
    obtain ⟨v, rfl, hq⟩ := z
    exact wpAny_pure hq
  · refine wpAny_bind (wpAny_pure ?_)
    simp only [Bool.false_eq_true, if_false]
    refine wpAny_bind (wpAny_mono one (fun r s' z => ?_) fun _ _ e => e)
    obtain ⟨v, rfl, hq⟩ := z
    exact wpAny_pure hq
end
end PySem.W
namespace Mv
open PySem PySem.Spec PyProof.Rows L2
/-- a def called with the instance and one more, as an operator calls it -/
structure Op2 (P : Program) (w : World) (K : PySem.W.Frag) (mg : Str → Option Value) (base : Heap) (k : Nat) (C : Addr) (m : Str) (sp : Sp) : Prop where
  ex : ∃ (g : Addr) (fd : FuncData) (ps : List Str), FnOk P w K mg base CX0 k g fd ps sp ∧ Binds K fd ps [] ∧ PySem.W.findIn K (.ref C) m = some (some (.ref g)) ∧ PySem.W.isFn K (.ref g) = true
section
variable {X : Cx} {k : Nat} {C : Addr} {sp : Sp}
theorem run_at {A : Around} {pins : List (Addr × Obj)} {σ : L2.St} {H : Hp} {s : Shared} {Q : VK} {us : List Value} {vs : List V} {E' : Value → Shared → Prop} {g : Addr} {fd : FuncData} {ps : List Str} (F : FnOk X.prog X.w X.K X.mg X.base CX0 k g fd ps sp) (hr : Room k A) (hf : A.frames = some X.stack) (hb : Binds X.K fd ps [])
    (I : Inv X pins σ H s) (r : Vals vs us) (h : sp vs H Q E0) : wpAny (model X.prog X.w) A (call (.ref g) us) (EP X pins σ Q) E' s := by
  have hl : (us ++ []).length = ps.length := by rw [List.append_nil, ← r.length]; exact F.len _ _ _ _ h
  have b := hb s us I.kIn hl
  rw [List.append_nil] at b
  have e0 := I.env0
  refine wpAny_call (codeAny_mono (F.run A X.stack s H ⟨us, []⟩ us vs Q E0 hr ⟨hf, e0.mod, e0.bs, e0.bsz, e0.funs, e0.frf, e0.hok, e0.bare⟩ b r h) fun r s' hq => ?_)
  cases r with
  | error e => exact False.elim hq
  | ok fl =>
    cases fl with
    | ret u => exact I.after hq
    | next => exact False.elim hq
    | brk => exact False.elim hq
    | cont => exact False.elim hq
/-- x == y, x an instance of the class at C with an own __eq__ -/
def rEqO (K : PySem.W.Frag) (C : Addr) (sp : Sp) : R2 := fun x y H Q => ∃ a dx fs t, x = .ref a ∧ H a = some (.ins C dx fs) ∧ TyX K H y t ∧ PySem.W.notFirst K C t = true ∧ sp [x, y] H Q E0
def rNeO (K : PySem.W.Frag) (C : Addr) (sp : Sp) : R2 := fun x y H Q => ∃ a dx fs t, x = .ref a ∧ H a = some (.ins C dx fs) ∧ TyX K H y t ∧ PySem.W.notFirst K C t = true ∧ sp [x, y] H (fun v H' => ∃ k, v = .bl k ∧ Q (.bl (!k)) H') E0
theorem op_eqO (c : Op2 X.prog X.w X.K X.mg X.base k C "__eq__" sp) (hr : Room k X.A) : OpR X (compareOp .Eq) (rEqO X.K C sp) := by
  obtain ⟨g, fd, ps, F, hb, hs, hf⟩ := c.ex
  intro pins s σ H x y v u Q I rx ry h
  obtain ⟨a, dx, fs, t, rfl, ea, ty, hn, q⟩ := h
  obtain rfl : v = Value.ref a := rx
  obtain ⟨mA, O, _⟩ := ins_get I.hok ea
  obtain ⟨od, J, _⟩ := O.look
  obtain ⟨m, hF⟩ := I.fr
  obtain ⟨P, kx, hP, _⟩ := kit_of I ry ty
  show wpAny _ _ (richCompare .Eq _ _) _ _ _
  refine PySem.W.cmp_K (op := .Eq) hr.units0 hF I.ok.mod.kin J (kx.ty _ _ I.kIn hP) hn hs hf ?_
  refine wpAny_mono (run_at (vs := [.ref a, y]) F hr I.ok.frames hb I (.cons rfl (.cons ry .nil)) q) (fun w s' z => ?_) fun _ _ x => x
  obtain ⟨z', H', I', rz, qz⟩ := z
  exact SlX.cmpback rz ⟨z', H', I', rz, qz⟩
theorem op_neO (c : Op2 X.prog X.w X.K X.mg X.base k C "__eq__" sp) (hr : Room (k + 1) X.A) (hne : PySem.W.findIn X.K (.ref C) "__ne__" = some (some (.builtin "object.__ne__"))) (hm : PySem.W.mroIn X.K C (.type "object") = some true) :
    OpR X (compareOp .NotEq) (rNeO X.K C sp) := by
  obtain ⟨g, fd, ps, F, hb, hs, hf⟩ := c.ex
  intro pins s σ H x y v u Q I rx ry h
  obtain ⟨a, dx, fs, t, rfl, ea, ty, hn, q⟩ := h
  obtain rfl : v = Value.ref a := rx
  obtain ⟨mA, O, _⟩ := ins_get I.hok ea
  obtain ⟨od, J, _⟩ := O.look
  obtain ⟨P, kx, hP, _⟩ := kit_of I ry ty
  show wpAny _ _ (richCompare .NotEq _ _) _ _ _
  refine PySem.W.mv_ne (by have := hr.units; omega) I.kIn J (kx.ty _ _ I.kIn hP) hn hne hm hs hf ?_
  refine wpAny_mono (run_at (vs := [.ref a, y]) F hr.in1 I.ok.frames hb I (.cons rfl (.cons ry .nil)) q) (fun w s' z => ?_) fun _ _ x => x
  obtain ⟨z', H', I', rz, k', rfl, qz⟩ := z
  obtain rfl : w = Value.bool k' := rz
  exact ⟨k', rfl, .bl _, H', I', rfl, qz⟩
/-- repr(x), x an instance with an own __repr__ -/
def rReprO (C : Addr) (sp : Sp) : List V → Hp → VK → Prop := fun xs H Q => ∃ a dx fs, xs = [.ref a] ∧ H a = some (.ins C dx fs) ∧ sp [.ref a] H (fun v H' => ∃ z, v = .str z ∧ Q v H') E0
theorem call_reprO (c : Op2 X.prog X.w X.K X.mg X.base k C "__repr__" sp) (hr : Room (k + 1) X.A) : CallR X (.builtin "repr") (rReprO C sp) := by
  obtain ⟨g, fd, ps, F, hb, hs, hf⟩ := c.ex
  intro pins s σ H xs us Q I r h
  obtain ⟨a, dx, fs, rfl, ea, q⟩ := h
  obtain ⟨u, rfl, ru⟩ := vals1 r
  obtain rfl : u = Value.ref a := ru
  obtain ⟨mA, O, _⟩ := ins_get I.hok ea
  obtain ⟨od, J, _⟩ := O.look
  obtain ⟨m, hF⟩ := I.fr
  refine PySem.W.repr_K (by have := hr.units; show X.A.units + 1 < cLine; omega) hF I.ok.mod.kin J hs hf ?_
  refine wpAny_mono (run_at (vs := [.ref a]) F hr.in1 I.ok.frames hb I (.cons rfl .nil) q) (fun w s' z => ?_) fun _ _ x => x
  obtain ⟨z', H', I', rz, y, rfl, qz⟩ := z
  obtain ⟨tk, rfl⟩ := rz
  exact ⟨.str y, H', I', ⟨_, rfl⟩, qz⟩
/-- str(x), x an instance with an own __str__ -/
theorem call_strO (c : Op2 X.prog X.w X.K X.mg X.base k C "__str__" sp) (hr : Room (k + 2) X.A) : CallR X (.type "str") (rReprO C sp) := by
  obtain ⟨g, fd, ps, F, hb, hs, hf⟩ := c.ex
  intro pins s σ H xs us Q I r h
  obtain ⟨a, dx, fs, rfl, ea, q⟩ := h
  obtain ⟨u, rfl, ru⟩ := vals1 r
  obtain rfl : u = Value.ref a := ru
  obtain ⟨mA, O, _⟩ := ins_get I.hok ea
  obtain ⟨od, J, _⟩ := O.look
  have hr1 : Room (k + 1) X.A.in1 := hr.in1
  have hr2 : Room k X.A.in1.in1 := hr1.in1
  refine PySem.W.kso_call hr2.units0 I.kIn J hs hf ?_
  refine wpAny_mono (run_at (vs := [.ref a]) F hr2 I.ok.frames hb I (.cons rfl .nil) q) (fun w s' z => ?_) fun _ _ x => x
  obtain ⟨z', H', I', rz, y, rfl, qz⟩ := z
  obtain ⟨tk, rfl⟩ := rz
  exact ⟨.str y, H', I', ⟨_, rfl⟩, qz⟩
/-- repr of lists and tuples of data -/
def rReprD (K : PySem.W.Frag) : List V → Hp → VK → Prop := fun xs H Q => ∃ a d, xs = [.ref a] ∧ Dp K H (.ref a) d ∧ d.showable = true ∧ d.hasDict = false ∧ d.depth ≤ 60 ∧ d.shown.length ≤ sizeLine ∧ Q (.str d.shown) H
theorem call_reprD (ga : GA X.A) (hr : Room k X.A) : CallR X (.builtin "repr") (rReprD X.K) := by
  intro pins s σ H xs us Q I r h
  obtain ⟨a, d, rfl, hd, hs, hn, hz, hl, q⟩ := h
  obtain ⟨u, rfl, ru⟩ := vals1 r
  obtain rfl : u = Value.ref a := ru
  obtain ⟨as, rd⟩ := hd.reads I d _ _ rfl
  refine repr_of_reads' rd hs (fun z => absurd z (by rw [hn]; simp)) ga (by have := hr.units; omega) (fun _ _ e => e) (fun h' u tk hk => ?_) hl
  exact ⟨.str _, H, I.kept hk, ⟨_, rfl⟩, q⟩
end
end Mv
set_option Elab.async false
set_option maxRecDepth 100000
set_option maxHeartbeats 4000000
namespace Mv
open PySem PySem.Spec PyProof.Rows L2
theorem loop_frames {A : Around} {args : Args} : (A.under (.builtin "list.__repr__.loop" args)).frames = A.frames := by
  first | rfl | (simp [Around.under, Code.envs, Code.isFrame, pushEnvs])
theorem loop_room {A : Around} {k : Nat} {args : Args} (r : Room (k + 1) A) : Room k (A.under (.builtin "list.__repr__.loop" args)) :=
  ⟨r.hd, by
    have h := r.dp
    have e : (A.under (.builtin "list.__repr__.loop" args)).depth = A.depth + 1 := by
      first | rfl | simp [Around.under, Code.weight, Code.isCreation, Code.isGuard, Code.isCaller, Code.frames, Code.isFrame, guardIds]
    rw [e]; omega, by
    have h := r.un
    rw [units_under_list_loop]; omega⟩
/-- what repr of the value v is where it stands inside lists -/
def RepX (X : Cx) (H : Hp) (k : Nat) (v : V) (t : Str) : Prop :=
  ∀ (A : Around) (base : Nat), Room k A → A.frames = some X.stack → base + t.length ≤ sizeLine →
    ∀ (pins : List (Addr × Obj)) (s : Shared) (σ : L2.St) (u : Value) (Q : Str → Shared → Prop) (E : Value → Shared → Prop), RelV v u → Inv X pins σ H s → (∀ s', Inv X pins σ H s' → Q t s') →
      wpAny (model X.prog X.w) A (pyReprUnder base u) Q E s
section
variable {X : Cx} {k : Nat} {C : Addr} {sp : Sp} {H : Hp}
theorem RepX.own {a dx : Addr} {fs : List (Str × V)} {t : Str} (c : Op2 X.prog X.w X.K X.mg X.base k C "__repr__" sp) (ea : H a = some (.ins C dx fs))
    (hsp : ∀ Q : VK, Q (.str t) H → sp [.ref a] H Q E0) : RepX X H k (.ref a) t := by
  obtain ⟨g, fd, ps, F, hb, hs, hf⟩ := c.ex
  intro A base hr hfr hz pins s σ u Q E ru I hq
  obtain rfl : u = Value.ref a := ru
  obtain ⟨mA, O, _⟩ := ins_get I.hok ea
  obtain ⟨od, J, _⟩ := O.look
  refine wpAny_pyReprUnder_ref (by omega) ?_
  unfold pyReprObjUnder pyReprObjBy
  refine wpAny_bind (wpAny_cRoomFor hr.units0 ?_)
  refine wpAny_bind (wpAny_bind (J.type.here ((PySem.W.looks_findIn I.kIn hs).here ?_)))
  show wpAny _ _ (if (some (Value.ref g)).isNone = true then _ else _) _ _ _
  rw [if_neg (by simp)]
  have main : wpAny (model X.prog X.w) A (call (.ref g) [.ref a]) (fun v s' => ∃ u, v = .str t u ∧ Q t s') E s := by
    refine wpAny_mono (run_at (vs := [.ref a]) F hr hfr hb I (.cons rfl .nil) (hsp (fun v H' => v = .str t ∧ H' = H) ⟨rfl, rfl⟩)) (fun v s' z => ?_) fun _ _ x => x
    obtain ⟨z', H', I', rz, rfl, rfl⟩ := z
    obtain ⟨tk, rfl⟩ := rz
    exact ⟨tk, rfl, hq s' I'⟩
  have fin : wpAny (model X.prog X.w) A (callSpecialIfBoundBy? (fun g first => match reprUnder? g, first with
      | some twin, [self] => call twin [self, rawInt base]
      | _, _ => call g (first ++ [])) (.ref a) "__repr__") (fun r s' => ∃ u, r = some (.str t u) ∧ Q t s') E s := by
    simp only [callSpecialIfBoundBy?, bindSpecialIfBound?]
    refine wpAny_holding (wpAny_bind (wpAny_bind (wpAny_bind (J.type.here ((PySem.W.looks_findIn I.kIn hs).here ?_)))))
    refine wpAny_bind (wpAny_askSetting (wpAny_ite ?_))
    have m2 : wpAny (model X.prog X.w) A (call (.ref g) ([.ref a] ++ []) >>= fun v => pure (some v)) (fun r s' => ∃ u, r = some (.str t u) ∧ Q t s') E s :=
      wpAny_bind (wpAny_mono main (fun v s' h' => by obtain ⟨u, rfl, q⟩ := h'; exact wpAny_pure ⟨u, rfl, q⟩) fun _ _ h' => h')
    split
    · exact wpAny_bind ((PySem.W.bind_fn I.kIn _ (beq_iff_eq.mp hf)).here (wpAny_pure (by exact m2)))
    · exact wpAny_tryCatch (wpAny_bind ((PySem.W.bind_fn I.kIn _ (beq_iff_eq.mp hf)).here (wpAny_pure (by exact m2))))
  refine wpAny_bind (wpAny_mono fin (fun r s' hr' => ?_) fun _ _ e => e)
  obtain ⟨u, rfl, q⟩ := hr'
  exact wpAny_bind (wpAny_isInstance (T := "str") (b := true) rfl isSubtype_str_str (wpAny_pure ⟨_, _, rfl, q⟩))
/-- items and their texts -/
inductive RepAll (X : Cx) (H : Hp) (k : Nat) : List V → List Str → Prop
  | nil : RepAll X H k [] []
  | cons {v : V} {t : Str} {vs : List V} {ts : List Str} : RepX X H k v t → RepAll X H k vs ts → RepAll X H k (v :: vs) (t :: ts)
theorem RepAll.len : ∀ {vs : List V} {ts : List Str}, RepAll X H k vs ts → ts.length = vs.length
  | _, _, .nil => rfl
  | _, _, .cons _ h => by simp [h.len]
theorem RepAll.at : ∀ {vs : List V} {ts : List Str} {us : List Value} {i : Nat} {u : Value}, RepAll X H k vs ts → Vals vs us → us[i]? = some u → ∃ v t, ts[i]? = some t ∧ RelV v u ∧ RepX X H k v t
  | _, _, _, _, _, .nil, .nil, h => by simp at h
  | _, _, _, 0, _, .cons r _, .cons q _, h => by
    simp at h; subst h
    exact ⟨_, _, rfl, q, r⟩
  | _, _, _, i + 1, _, .cons _ r, .cons _ q, h => by
    obtain ⟨v, t, a, b, c⟩ := RepAll.at (i := i) r q (by simpa using h)
    exact ⟨v, t, by simpa using a, b, c⟩
abbrev partsObj (acc : Array Value) (c : Nat) : Obj := { cls := .type "list", dict := none, data := .seq acc c, slots := #[] }
theorem list_loop {a P : Addr} {vs : List V} {ts : List Str} {A : Around} {base : Nat} {R : Result → Shared → Prop} {σ : L2.St} {pins : List (Addr × Obj)} (hr : Room (k + 1) A) (hfr : A.frames = some X.stack)
    (ha : SqL X.K H a vs) (hT : RepAll X H k vs ts) (hsz : base + (listText ts).length ≤ sizeLine) (hP0 : X.s_0.heap.objs.size ≤ P) (hPL : P ≠ X.env.locals) (hPc : ∀ x c, X.env.cells.lookup x = some c → c ≠ P) (hPp : ∀ p ∈ X.pn ++ pins, p.1 ≠ P) (hPs : P ∉ X.fs)
    (hR : ∀ s' u, Inv X pins σ H s' → R (.ok (.ret (.str (listText ts) u))) s') :
    ∀ (n i : Nat) (s : Shared) (acc : Array Value) (c : Nat) (done : List (Str × Tok)), vs.length - i = n → i ≤ vs.length → Inv X ((P, partsObj acc c) :: pins) σ H s → acc.toList = strValues done → done.map (·.1) = ts.take i →
    codeAny (model X.prog X.w) A (.builtin "list.__repr__.loop" ⟨[.ref a, rawInt i, .ref P, rawInt ((base + piled (ts.take i) : Nat) : Int)], []⟩) R s := by
  have hlen := hT.len
  have hX : (listText ts).length = (textFrom 0 "[" ts).length + 1 := by
    show (textFrom 0 "[" ts ++ "]").length = _
    rw [strLen_append]; rfl
  have hL := textFrom_len ts 0 "["
  have hsz1 : vs.length ≤ sizeLine := by
    have h1 := hL.1
    rw [if_neg (Nat.lt_irrefl 0)] at h1
    omega
  have hsz2 : ∀ t ∈ ts, t.length ≤ sizeLine := fun t ht => by
    have h2 := hL.2.1 t ht
    omega
  have hp3 := piled_le_listText ts
  intro n
  induction n with
  | zero =>
    intro i s acc c done hk hi I hacc hdone
    obtain ⟨its, rv, ⟨oa, na, hoa, _, _, hda⟩, _⟩ := I.list ha
    have hin : i = vs.length := by omega
    have hPo := ClX.pin_at I
    refine codeAny_builtin F.entry_list_repr_loop ?_
    show wpAny _ _ (Builtin.«list.__repr__.loop» ⟨[.ref a, .int i 0, .ref P, .int ((base + piled (ts.take i) : Nat) : Int) 0], []⟩) _ _ s
    rw [repr_loop_tree]
    refine wpAny_bind (wpAny_listItems hoa hda ?_)
    have hnone : its.toArray[(i : Int).toNat]? = none := by
      have := rv.length
      simp; omega
    simp only [hnone]
    unfold reprEnd
    refine wpAny_bind (wpAny_listItems hPo rfl ?_)
    rw [hacc, repr_fold]
    refine wpAny_bind (wpAny_pure ?_)
    have hall : done.map (·.1) = ts := by rw [hdone, hin, ← hlen, List.take_length]
    rw [hall]
    refine wpAny_bind (wpAny_mkStr (wpAny_pure ?_) (show (listText ts).length ≤ sizeLine by omega))
    exact hR _ _ ((ClX.unpin I).tok _)
  | succ n ih =>
    intro i s acc c done hk hi I hacc hdone
    obtain ⟨its, rv, ⟨oa, na, hoa, _, _, hda⟩, _⟩ := I.list ha
    have hil : i < its.length := by have := rv.length; omega
    obtain ⟨v, t, ht, rvu, hrep⟩ := hT.at (i := i) (u := its[i]) rv (by simp [hil])
    have hp1 := piled_take_succ ht
    have hp2 := piled_take_le ts (i + 1)
    refine codeAny_builtin F.entry_list_repr_loop ?_
    show wpAny _ _ (Builtin.«list.__repr__.loop» ⟨[.ref a, .int i 0, .ref P, .int ((base + piled (ts.take i) : Nat) : Int) 0], []⟩) _ _ s
    rw [repr_loop_tree]
    refine wpAny_bind (wpAny_listItems hoa hda ?_)
    have hsome : its.toArray[(i : Int).toNat]? = some its[i] := by simp [hil]
    simp only [hsome]
    rw [Int.toNat_natCast]
    refine wpAny_bind (wpAny_holding (hrep _ (base + piled (ts.take i) + 1) (loop_room hr) (loop_frames.trans hfr) (by omega) _ _ σ _ _ _ rvu I fun s1 I1 => ?_))
    refine wpAny_bind (wpAny_mkStr ?_ (hsz2 t (List.mem_of_getElem? ht)))
    refine wpAny_bind ?_
    show wpAny _ _ (updateSeq P _) _ _ _
    have hasz : acc.size ≤ sizeLine := by
      have e1 : acc.toList.length = acc.size := by simp
      have e2 : (strValues done).length = done.length := by simp [strValues]
      have e3 : done.length = (ts.take i).length := by rw [← hdone, List.length_map]
      have e4 : (ts.take i).length ≤ i := by rw [List.length_take]; omega
      rw [hacc] at e1; omega
    have I2 := I1.tok (s1.toks + 1)
    have hPn : H P = none := ClX.pin_un I1
    have hP2 : ({ s1 with toks := s1.toks + 1 } : Shared).heap.get? P = some (partsObj acc c) := ClX.pin_at I1
    refine wpAny_updateSeq hP2 rfl (wpAny_pure ⟨F.quiet_list_repr_loop _, ?_⟩) hasz
    have e1 : ((i : Int) + 1) = ((i + 1 : Nat) : Int) := by omega
    have e2 : base + piled (ts.take i) + (t.length + 2) = base + piled (ts.take (i + 1)) := by omega
    rw [e1, e2]
    have hup : ∃ c', (s1.heap.update P (Obj.mapSeq (·.push (.str t s1.toks)))).get? P = some (partsObj (acc.push (.str t s1.toks)) c') := ⟨_, Heap.get?_update_self _ (ClX.pin_at I1) rfl⟩
    obtain ⟨c', hup⟩ := hup
    refine ih (i + 1) _ (acc.push (.str t s1.toks)) c' (done ++ [(t, s1.toks)]) (by omega) (by omega) ?_ (by simp [hacc, strValues]) (by simp [List.take_add_one, ht, hdone])
    have I3 := (ClX.unpin I2).turned (t' := s1.toks + 1) (it := P) (h' := s1.heap.update P (Obj.mapSeq (·.push (.str t s1.toks)))) (fun b o hb e => (Heap.get?_update_other _ _ (fun h : P = b => hb h.symm)).trans e) (ClX.pin_un I1) hPL (.inr hP0) hPc hPp
    refine I3.pins_of fun p hp => ?_
    rcases List.mem_cons.mp hp with e | e
    · subst e
      refine ⟨hup, hPn, hPL, hPs, fun v z => nomatch z⟩
    · exact I3.pin p (List.mem_append_right _ e)
/-- repr of a list whose items have such texts -/
def rReprL (X : Cx) (k : Nat) : List V → Hp → VK → Prop := fun xs H Q => ∃ a v vs ts, xs = [.ref a] ∧ SqL X.K H a (v :: vs) ∧ RepAll X H k (v :: vs) ts ∧ (listText ts).length ≤ sizeLine ∧ Q (.str (listText ts)) H
theorem call_reprL (ga : GA X.A) (hr : Room (k + 2) X.A) : CallR X (.builtin "repr") (rReprL X k) := by
  intro pins s σ H xs us Q I r h
  obtain ⟨a, v, vs, ts, rfl, hS, hT, hz, q⟩ := h
  obtain ⟨u, rfl, ru⟩ := vals1 r
  obtain rfl : u = Value.ref a := ru
  obtain ⟨its, rv, ⟨oa, na, hoa, hc, hd, hda⟩, _⟩ := I.list hS
  obtain ⟨i0, irest, rfl⟩ : ∃ i0 irest, its = i0 :: irest := by
    cases rv with
    | cons _ _ => exact ⟨_, _, rfl⟩
  have hTy : s.TypeIs (.ref a) "list" := ⟨oa, hoa, hc⟩
  have hr1 : Room (k + 1) X.A.in1 := hr.in1
  refine call_repr_slot (by have := hr.units; omega) hTy F.slot_list_repr.toG ?_
  refine wpAny_call (codeAny_call_builtin F.slot_list_repr.plain F.entry_list_repr (F.slot_list_repr.check _ _ _ _ _ _ _ _ hTy (F.args_list_repr_1 _) ?_))
  refine wpAny_list_repr_head (A := X.A.in1.in1) (b := 0) (g := []) ga (fun _ _ _ z => nomatch z) hoa hda ?_
  refine wpAny_bind (m := newList []) (wpAny_newObj_type ?_)
  refine wpAny_pure ⟨F.quiet_list_repr_loop _, ?_⟩
  have I1 : Inv X ((s.heap.objs.size, partsObj #[] 0) :: pins) σ H { s with heap := s.heap.push (partsObj #[] 0), toks := s.toks } :=
    ClX.pin_new I (fun _ _ z => Heap.get?_push_of_some _ z) (Nat.le_refl _) (Heap.get?_push_size s.heap rfl) (fun v z => nomatch z)
  refine list_loop (P := s.heap.objs.size) (base := 0) (pins := pins) (σ := σ) hr1 I.ok.frames hS hT (by omega) I.sz (Nat.ne_of_gt I.lt) (fun x c e => ?_) (fun p hp => ?_) (I.nofs (Nat.le_refl _)) (fun s' u I' => ?_) _ 0 _ #[] 0 [] rfl (Nat.zero_le _) I1 rfl (by simp)
  · obtain ⟨_, ob, hob, _⟩ := I.cell x c e
    exact Nat.ne_of_lt (Heap.lt_size hob)
  · exact Nat.ne_of_lt (Heap.lt_size (I.pin p hp).1)
  · exact ⟨_, _, rfl, .str _, H, I', ⟨_, rfl⟩, q⟩
end
end Mv
set_option Elab.async false
set_option maxRecDepth 100000
set_option maxHeartbeats 4000000
namespace Mv
open PySem PySem.Spec PyProof.Rows L2
/-- a def of the text, its defaults dvs -/
abbrev Df (K : PySem.W.Frag) (x qual : Str) (st : Stmt) (dvs : List V) (f : Addr) (fd : FuncData) : Prop := FunD K x qual (defArgs st) (defBody st) (defScope st) dvs [] f fd
section
variable {P : Program} {w : World} {K : PySem.W.Frag} {mg : Str → Option Value} {base : Heap}
theorem Df.mk0 {x qual : Str} {st : Stmt} {f : Addr} {oc : Value} {od an : Option Addr} {osl : Array (Option Value)} {kV doc pm cdv ct : Value} (l : K.lookup f = some ⟨oc, od, .func (PySem.W.fnOf x qual (defArgs st) (defBody st) (defScope st) .none kV doc pm an cdv ct), osl⟩)
    (c : PySem.W.codeIn K cdv qual = true) (k : PySem.W.keepIn K (.ref f) = true) : Df K x qual st [] f (PySem.W.fnOf x qual (defArgs st) (defBody st) (defScope st) .none kV doc pm an cdv ct) :=
  ⟨⟨oc, od, .none, kV, doc, pm, an, cdv, ct, osl, rfl, l, c, .inl ⟨rfl, rfl⟩, .inl rfl⟩, k⟩
theorem dfOk {x qual : Str} {st : Stmt} {dvs : List V} {f : Addr} {fd : FuncData} {N ps : List Str} {k : Nat} {sp : Sp} (F : Df K x qual st dvs f fd) (S : FnScope N ps (defScope st)) (len : ∀ vs H Q E, sp vs H Q E → vs.length = ps.length)
    (hbody : ∀ (cdv : Value) (A : Around) (outer : List Env) (s : Shared) (H : Hp) (vs : List V) (Q : VK) (E : XK), Room k (A.deeper (envOfC qual (defScope st) s.heap.objs.size f cdv)) → sp vs H Q E →
      ∃ t, PSs (cxOf CX0 P w K mg base N qual (defScope st) f cdv A outer s H E).nox (defBody st) t ∧ t { nx := fun _ H' => Q .non H', rt := Q } (start N vs) H) : FnOk P w K mg base CX0 (k + 1) f fd ps sp :=
  FunD.ok F S len fun cdv A outer s H vs Q E hr h => let ⟨t, h1, h2⟩ := hbody cdv A outer s H vs Q E hr h; ⟨t, h1.nox, h2⟩
theorem dfG {x qual : Str} {st : Stmt} {dvs : List V} {f : Addr} {fd : FuncData} {N ps : List Str} {k : Nat} {sp : Sp} (F : Df K x qual st dvs f fd) (S : FnScope N ps (defScope st)) (len : ∀ vs H Q E, sp vs H Q E → vs.length = ps.length)
    (hbody : ∀ (cdv : Value) (A : Around) (outer : List Env) (s : Shared) (H : Hp) (vs : List V) (Q : VK) (E : XK), Room k (A.deeper (envOfC qual (defScope st) s.heap.objs.size f cdv)) → GA (A.deeper (envOfC qual (defScope st) s.heap.objs.size f cdv)) → sp vs H Q E →
      ∃ t, PSs (cxOf CX0 P w K mg base N qual (defScope st) f cdv A outer s H E).nox (defBody st) t ∧ t { nx := fun _ H' => Q .non H', rt := Q } (start N vs) H) : FnG P w K mg base (k + 1) f fd ps sp := by
  obtain ⟨oc, od, dV, kV, doc, pm, an, cdv, ct, osl, rfl, lk, hcd, _, _⟩ := F.ex
  refine fng_of lk hcd S len fun A outer s H vs Q E hr ga hsp => ?_
  obtain ⟨t, h, q⟩ := hbody cdv A outer s H vs Q E hr ga hsp
  exact ⟨t, h.nox, q⟩
theorem Df.bind {x qual : Str} {st : Stmt} {f : Addr} {fd : FuncData} {ps : List Str} (F : Df K x qual st [] f fd)
    (h : ∀ (kV doc pm : Value) (an : Option Addr) (cdv ct : Value) (us : List Value), us.length = ps.length → bindArgs (PySem.W.fnOf x qual (defArgs st) (defBody st) (defScope st) .none kV doc pm an cdv ct) ⟨us, []⟩ = pure (ps.zip us)) : Binds K fd ps [] := by
  obtain ⟨oc, od, dV, kV, doc, pm, an, cdv, ct, osl, rfl, lk, hcd, hd, _⟩ := F.ex
  rcases hd with ⟨_, e⟩ | ⟨e, _⟩
  · subst e
    exact .all (h kV doc pm an cdv ct)
  · exact absurd rfl e
end
/-- a def called by its name -/
structure Ca (P : Program) (w : World) (K : PySem.W.Frag) (mg : Str → Option Value) (base : Heap) (k : Nat) (x : Str) (sp : Sp) (dvs : List V) : Prop where
  ex : ∃ (f : Addr) (fd : FuncData) (ps : List Str) (ds : List Value), FnOk P w K mg base CX0 k f fd ps sp ∧ mg x = some (.ref f) ∧ PySem.W.keepIn K (.ref f) = true ∧ Binds K fd ps ds ∧ Vals dvs ds
/-- a class made by its name; C its address, sp the promise of its __init__ -/
structure Ma (P : Program) (w : World) (K : PySem.W.Frag) (mg : Str → Option Value) (base : Heap) (k : Nat) (x : Str) (C : Addr) (sp : Sp) (dvs : List V) : Prop where
  ex : ∃ (f : Addr) (fd : FuncData) (ps : List Str) (ds : List Value), Mk K C f ∧ FnOk P w K mg base CX0 k f fd ps sp ∧ mg x = some (.ref C) ∧ Binds K fd ps ds ∧ Vals dvs ds
/-- .. by keywords alone -/
structure MaK (P : Program) (w : World) (K : PySem.W.Frag) (mg : Str → Option Value) (base : Heap) (k : Nat) (x : Str) (C : Addr) (sp : Sp) (ks : List Str) (gV : List V → List V → List V) : Prop where
  ex : ∃ (f : Addr) (fd : FuncData) (ps : List Str) (g : List Value → List Value → List Value), Mk K C f ∧ FnOk P w K mg base CX0 k f fd ps sp ∧ mg x = some (.ref C) ∧ KBn K fd ps 1 ks g gV
/-- a method -/
structure Me (P : Program) (w : World) (K : PySem.W.Frag) (mg : Str → Option Value) (base : Heap) (k : Nat) (C : Addr) (m : Str) (sp : Sp) (dvs : List V) : Prop where
  ex : ∃ (f : Addr) (fd : FuncData) (ps : List Str) (ds : List Value), Cls K C ∧ Meth K C m f ∧ FnOk P w K mg base CX0 k f fd ps sp ∧ Binds K fd ps ds ∧ Vals dvs ds
/-- a property -/
structure Pr (P : Program) (w : World) (K : PySem.W.Frag) (mg : Str → Option Value) (base : Heap) (k : Nat) (C : Addr) (m : Str) (sp : Sp) : Prop where
  ex : ∃ (p g : Addr) (fd : FuncData) (ps : List Str), Cls K C ∧ PropOf K C m p g ∧ FnOk P w K mg base CX0 k g fd ps sp ∧ Binds K fd ps []
section
variable {X : Cx} {k j : Nat} {C : Addr} {x m : Str} {sp : Sp} {dvs : List V} {p pos apos : Pos} {e o : Expr} {es : List Expr} {ta : TE} {t tk : TA} {ks : List Str} {gV : List V → List V → List V} {kws : List Keyword}
theorem pe_ca (c : Ca X.prog X.w X.K X.mg X.base k x sp dvs) (hr : Room j X.A) (hk : k ≤ j) (hg : Gl X x) (ha : PA X (e :: es) t)
    (hdb : (x == ("__debug__" : Str)) = false := by decide) (he : starEach (e :: es) X.env = (false, eval e X.env) :: starEach es X.env := by rfl) (hpl : (backTo pos (starEach es X.env)).any (·.1) = false := by rfl) :
    PE X (.Call (.Name x p) (e :: es) [] pos) (tCall sp dvs E0 t) := by
  obtain ⟨f, fd, ps, ds, F, hm, kp, b, d⟩ := c.ex
  exact pe_call F (hr.mono hk) hg hm kp b d pass0 ha hdb he hpl
theorem pe_ma (c : Ma X.prog X.w X.K X.mg X.base k x C sp dvs) (hr : Room j X.A) (hk : k + 1 ≤ j) (hg : Gl X x) (ha : PA X (e :: es) t)
    (hdb : (x == ("__debug__" : Str)) = false := by decide) (he : starEach (e :: es) X.env = (false, eval e X.env) :: starEach es X.env := by rfl) (hpl : (backTo pos (starEach es X.env)).any (·.1) = false := by rfl) :
    PE X (.Call (.Name x p) (e :: es) [] pos) (tMake C sp dvs E0 t) := by
  obtain ⟨f, fd, ps, ds, M, F, hm, b, d⟩ := c.ex
  exact pe_make M F (hr.mono hk) hg hm b d pass0 ha hdb he hpl
theorem pe_me {pl : Sem Bool} (c : Me X.prog X.w X.K X.mg X.base k C m sp dvs) (hr : Room j X.A) (hk : k ≤ j) (he : PE X o ta) (ha : PA X (e :: es) t)
    (hst : starEach (e :: es) X.env = (false, eval e X.env) :: starEach es X.env := by rfl) (hpl : (backTo pos (starEach es X.env)).any (·.1) = false := by rfl)
    (ht : eval (.Call (.Attribute o m apos) (e :: es) [] pos) X.env = (do
      let ov ← eval o X.env
      standAt apos.atName
      let (f, first) ← holding [ov] (getMethod ov m pl)
      callWith pos f first (backTo pos (starEach (e :: es) X.env)) (backToKw pos (keywordEach [] X.env))) := by rfl) :
    PE X (.Call (.Attribute o m apos) (e :: es) [] pos) (tMeth C m sp dvs E0 ta t) := by
  obtain ⟨f, fd, ps, ds, hc, hm, F, b, d⟩ := c.ex
  exact pe_meth (pl := pl) he hc hm F (hr.mono hk) b d pass0 ha hst hpl ht
theorem pe_me0 {pl : Sem Bool} (c : Me X.prog X.w X.K X.mg X.base k C m sp dvs) (hr : Room j X.A) (hk : k ≤ j) (he : PE X o ta)
    (ht : eval (.Call (.Attribute o m apos) [] [] pos) X.env = (do
      let ov ← eval o X.env
      standAt apos.atName
      let (f, first) ← holding [ov] (getMethod ov m pl)
      callWith pos f first (backTo pos (starEach [] X.env)) (backToKw pos (keywordEach [] X.env))) := by rfl) :
    PE X (.Call (.Attribute o m apos) [] [] pos) (tMeth C m sp dvs E0 ta tNil) := by
  obtain ⟨f, fd, ps, ds, hc, hm, F, b, d⟩ := c.ex
  exact pe_meth0 (pl := pl) he hc hm F (hr.mono hk) b d pass0 ht
theorem pe_pr (c : Pr X.prog X.w X.K X.mg X.base k C m sp) (hr : Room j X.A) (hk : k + 1 ≤ j) (he : PE X e ta)
    (hab : attributeBase e m X.env (eval e X.env) = eval e X.env := by rfl) : PE X (.Attribute e m pos) (tProp C sp [] E0 ta) := by
  obtain ⟨p, g, fd, ps, hc, hp, F, b⟩ := c.ex
  exact pe_prop he hc hp F (hr.mono hk) b .nil pass0 hab
theorem pe_mak (c : MaK X.prog X.w X.K X.mg X.base k x C sp ks gV) (hr : Room j X.A) (hk : k + 1 ≤ j) (hg : Gl X x) (hkw : PK X kws tk)
    (hall : (backToKw pos (keywordEach kws X.env)).all (·.1.isSome) = true := by rfl) (hks : (backToKw pos (keywordEach kws X.env)).filterMap (·.1) = ks := by rfl)
    (hdb : (x == ("__debug__" : Str)) = false := by decide) (hpl : ((backTo pos (starEach [] X.env)).any (·.1) || (backToKw pos (keywordEach kws X.env)).any (·.1.isNone)) = false := by rfl) :
    PE X (.Call (.Name x p) [] kws pos) (tMakeK C 0 ks.length sp gV E0 tNil tk) := by
  obtain ⟨f, fd, ps, g, M, F, hm, b⟩ := c.ex
  exact pe_makeK0 M F (hr.mono hk) hg hm b pass0 hkw hall hks hdb hpl
end
section
variable {K : PySem.W.Frag}
/-- keywords of a def without defaults -/
theorem Df.kbn {x qual : Str} {st : Stmt} {f : Addr} {fd : FuncData} {ps : List Str} (F : Df K x qual st [] f fd) (n : Nat) (ks : List Str) (g : {α : Type} → List α → List α → List α)
    (hrel : ∀ {vs zs : List V} {us ws : List Value}, Vals vs us → Vals zs ws → Vals (g vs zs) (g us ws))
    (h : ∀ (kV doc pm : Value) (an : Option Addr) (cdv ct : Value) (us ws : List Value), us.length = n → ws.length = ks.length → bindArgs (PySem.W.fnOf x qual (defArgs st) (defBody st) (defScope st) .none kV doc pm an cdv ct) ⟨us, ks.zip ws⟩ = pure (ps.zip (g us ws))) :
    KBn K fd ps n ks (fun us ws => g us ws) (fun vs zs => g vs zs) := by
  obtain ⟨oc, od, dV, kV, doc, pm, an, cdv, ct, osl, rfl, lk, hcd, hd, _⟩ := F.ex
  rcases hd with ⟨_, e⟩ | ⟨e, _⟩
  · subst e
    exact ⟨fun s us ws X l1 l2 => .of_eq (h kV doc pm an cdv ct us ws l1 l2), fun r1 r2 => hrel r1 r2⟩
  · exact absurd rfl e
end
/-- a def by its name, keywords alone; a method, the same; a static method -/
structure CaK (P : Program) (w : World) (K : PySem.W.Frag) (mg : Str → Option Value) (base : Heap) (k : Nat) (x : Str) (sp : Sp) (ks : List Str) (gV : List V → List V → List V) : Prop where
  ex : ∃ (f : Addr) (fd : FuncData) (ps : List Str) (g : List Value → List Value → List Value), FnOk P w K mg base CX0 k f fd ps sp ∧ mg x = some (.ref f) ∧ PySem.W.keepIn K (.ref f) = true ∧ KBn K fd ps 0 ks g gV
structure MeK (P : Program) (w : World) (K : PySem.W.Frag) (mg : Str → Option Value) (base : Heap) (k : Nat) (C : Addr) (m : Str) (sp : Sp) (ks : List Str) (gV : List V → List V → List V) : Prop where
  ex : ∃ (f : Addr) (fd : FuncData) (ps : List Str) (g : List Value → List Value → List Value), Cls K C ∧ Meth K C m f ∧ FnOk P w K mg base CX0 k f fd ps sp ∧ KBn K fd ps 1 ks g gV
/-- C.m of the class at C is the static def at f -/
structure SMet (K : PySem.W.Frag) (C : Addr) (m : Str) (f : Addr) : Prop where
  ga : PySem.W.specialIn K (.ref C) "__getattribute__" = some (some (.builtin "type.__getattribute__"))
  at_ : ∃ (mc : Value) (p : Addr) (rest : List Value), PySem.W.readsIn K C mc = true ∧ PySem.W.findCls K (.ref C) mc m = some (.get (.builtin "staticmethod.__get__") (.ref p) .none (.ref C)) ∧ PySem.W.recIn K p "staticmethod" = some (.ref f :: rest)
  hv : PySem.W.handedIn (.ref f) = true
  kp : PySem.W.keepIn K (.ref f) = true
structure Sm (P : Program) (w : World) (K : PySem.W.Frag) (mg : Str → Option Value) (base : Heap) (k : Nat) (C : Addr) (m : Str) (sp : Sp) : Prop where
  ex : ∃ (f : Addr) (fd : FuncData) (ps : List Str), SMet K C m f ∧ FnOk P w K mg base CX0 k f fd ps sp ∧ Binds K fd ps []
structure SmK (P : Program) (w : World) (K : PySem.W.Frag) (mg : Str → Option Value) (base : Heap) (k : Nat) (C : Addr) (m : Str) (sp : Sp) (ks : List Str) (gV : List V → List V → List V) : Prop where
  ex : ∃ (f : Addr) (fd : FuncData) (ps : List Str) (g : List Value → List Value → List Value), SMet K C m f ∧ FnOk P w K mg base CX0 k f fd ps sp ∧ KBn K fd ps 0 ks g gV
def tCallKn (n m : Nat) (sp : Sp) (gV : List V → List V → List V) (pre : List V) (tk : TA) : TE := fun σ H Q => tk σ H fun zs H2 => zs.length = m ∧ sp (gV pre zs) H2 Q E0
def tMethKn (C : Addr) (m : Str) (n : Nat) (sp : Sp) (gV : List V → List V → List V) (ta : TE) (tk : TA) : TE := fun σ H Q => ta σ H fun x H1 => ∃ a dx fs, x = .ref a ∧ H1 a = some (.ins C dx fs) ∧ fs.lookup m = none ∧
  tk σ H1 fun zs H2 => zs.length = n ∧ sp (gV [x] zs) H2 Q E0
section
variable {X : Cx} {k j n : Nat} {C f : Addr} {fd : FuncData} {ps : List Str} {x m : Str} {sp : Sp} {dvs : List V} {p pos apos : Pos} {e o : Expr} {es : List Expr} {ta : TE} {t tk : TA} {ks : List Str} {g : List Value → List Value → List Value} {gV : List V → List V → List V} {kws : List Keyword}
theorem run_kn {pins : List (Addr × Obj)} {σ : L2.St} {H : Hp} {s : Shared} {Q : VK} {us ws : List Value} {vs zs : List V} (F : FnOk X.prog X.w X.K X.mg X.base CX0 k f fd ps sp) (hr : Room k X.A) (hb : KBn X.K fd ps n ks g gV)
    (I : Inv X pins σ H s) (r : Vals vs us) (rz : Vals zs ws) (l1 : vs.length = n) (l2 : zs.length = ks.length) (h : sp (gV vs zs) H Q E0) : wpAny (model X.prog X.w) X.A (call (.ref f) us (ks.zip ws)) (EP X pins σ Q) X.xe s := by
  refine wpAny_call (codeAny_mono (F.run X.A X.stack s H ⟨us, ks.zip ws⟩ (g us ws) (gV vs zs) Q E0 hr I.env0 (hb.to s us ws I.kIn (r.length.symm.trans l1) (rz.length.symm.trans l2)) (hb.rel r rz) h) fun r s' hq => ?_)
  cases r with
  | error e => exact False.elim hq
  | ok fl =>
    cases fl with
    | ret u => exact I.after hq
    | next => exact False.elim hq
    | brk => exact False.elim hq
    | cont => exact False.elim hq
theorem pe_cak (c : CaK X.prog X.w X.K X.mg X.base k x sp ks gV) (hr : Room j X.A) (hk : k ≤ j) (hg : Gl X x) (hkw : PK X kws tk)
    (hall : (backToKw pos (keywordEach kws X.env)).all (·.1.isSome) = true := by rfl) (hks : (backToKw pos (keywordEach kws X.env)).filterMap (·.1) = ks := by rfl)
    (hdb : (x == ("__debug__" : Str)) = false := by decide) (hpl : ((backTo pos (starEach [] X.env)).any (·.1) || (backToKw pos (keywordEach kws X.env)).any (·.1.isNone)) = false := by rfl) :
    PE X (.Call (.Name x p) [] kws pos) (tCallKn 0 ks.length sp gV [] tk) := by
  obtain ⟨f, fd, ps, g, F, hm, kp, b⟩ := c.ex
  refine ⟨fun pins s σ H Q I h => ?_⟩
  refine wpAny_Call_Name_kw (ld_glob I hg hm ?_ hdb)
  refine PySem.W.callWith_KW0 (h₀ := X.base) I.ok.mod.kin kp hall ?_ hpl
  refine thn (hkw.run pos pins s σ H _ I h) fun ws s2 ⟨zs, H2, I2, rz, l2, q2⟩ => ⟨I2.kIn, ?_⟩
  rw [hks]
  exact run_kn (us := []) (vs := []) F (hr.mono hk) b I2 .nil rz rfl l2 q2
theorem pe_mek {pl : Sem Bool} (c : MeK X.prog X.w X.K X.mg X.base k C m sp ks gV) (hr : Room j X.A) (hk : k ≤ j) (he : PE X o ta) (hkw : PK X kws tk)
    (hall : (backToKw pos (keywordEach kws X.env)).all (·.1.isSome) = true := by rfl) (hks : (backToKw pos (keywordEach kws X.env)).filterMap (·.1) = ks := by rfl)
    (hpl : ((backTo pos (starEach [] X.env)).any (·.1) || (backToKw pos (keywordEach kws X.env)).any (·.1.isNone)) = false := by rfl)
    (ht : eval (.Call (.Attribute o m apos) [] kws pos) X.env = (do
      let ov ← eval o X.env
      standAt apos.atName
      let (f, first) ← holding [ov] (getMethod ov m pl)
      callWith pos f first (backTo pos (starEach [] X.env)) (backToKw pos (keywordEach kws X.env))) := by rfl) :
    PE X (.Call (.Attribute o m apos) [] kws pos) (tMethKn C m ks.length sp gV ta tk) := by
  obtain ⟨f, fd, ps, g, hc, hm, F, b⟩ := c.ex
  refine ⟨fun pins s σ H Q I h => ?_⟩
  refine PySem.W.methodCall_KW (pl := pl) (thn (he.run pins s σ H _ I h) fun u s1 ⟨x, H1, I1, rx, a, dx, fs, ex, ea, l, q⟩ => ?_) ht
  subst ex
  obtain rfl : u = Value.ref a := rx
  refine getmeth_ok I1 ea hc hm l ?_
  refine PySem.W.callWith_KW0 (first := [.ref a]) (h₀ := X.base) I.ok.mod.kin hm.kp hall ?_ hpl
  refine thn (hkw.run pos pins s1 σ H1 _ I1 q) fun ws s2 ⟨zs, H2, I2, rz, l2, q2⟩ => ⟨I2.kIn, ?_⟩
  rw [hks]
  exact run_kn (us := [.ref a]) (vs := [.ref a]) F (hr.mono hk) b I2 (.cons rfl .nil) rz rfl l2 q2
theorem getsm_ok {pins : List (Addr × Obj)} {σ : L2.St} {H : Hp} {s : Shared} {pl : Sem Bool} {Q : Value × List Value → Shared → Prop} {A : Around} {E : Value → Shared → Prop} (I : Inv X pins σ H s) (c : SMet X.K C m f) (h : ∀ s', Inv X pins σ H s' → Q (.ref f, []) s') :
    wpAny (model X.prog X.w) A (getMethod (.ref C) m pl) Q E s := by
  obtain ⟨mc, pp, rest, rd, at_, rc⟩ := c.at_
  refine PySem.W.method_cls I.kIn c.ga (PySem.W.cls_bind I.kIn rd at_ ?_)
  exact wpAny_call (PySem.W.sm_get (s := { s with toks := s.toks + 1 }) I.kIn rc (PySem.W.handed_on c.hv (h _ (I.tok _))))
/-- C.m(e, ..), m static, C told by an expression -/
def tSm (C : Addr) (sp : Sp) (to : TE) (t : TA) : TE := fun σ H Q => to σ H fun x H1 => x = .ref C ∧ t σ H1 fun vs H2 => sp vs H2 Q E0
def tSmK (C : Addr) (n : Nat) (sp : Sp) (gV : List V → List V → List V) (to : TE) (tk : TA) : TE := fun σ H Q => to σ H fun x H1 => x = .ref C ∧ tk σ H1 fun zs H2 => zs.length = n ∧ sp (gV [] zs) H2 Q E0
theorem pe_sm {pl : Sem Bool} (c : Sm X.prog X.w X.K X.mg X.base k C m sp) (hr : Room j X.A) (hk : k ≤ j) (he : PE X o ta) (ha : PA X (e :: es) t)
    (hst : starEach (e :: es) X.env = (false, eval e X.env) :: starEach es X.env := by rfl) (hpl : (backTo pos (starEach es X.env)).any (·.1) = false := by rfl)
    (ht : eval (.Call (.Attribute o m apos) (e :: es) [] pos) X.env = (do
      let ov ← eval o X.env
      standAt apos.atName
      let (f, first) ← holding [ov] (getMethod ov m pl)
      callWith pos f first (backTo pos (starEach (e :: es) X.env)) (backToKw pos (keywordEach [] X.env))) := by rfl) :
    PE X (.Call (.Attribute o m apos) (e :: es) [] pos) (tSm C sp ta t) := by
  obtain ⟨f, fd, ps, sm, F, b⟩ := c.ex
  refine ⟨fun pins s σ H Q I h => ?_⟩
  refine PySem.W.methodCall_KW (pl := pl) (thn (he.run pins s σ H _ I h) fun u s1 ⟨x, H1, I1, rx, ex, q⟩ => ?_) ht
  subst ex
  obtain rfl : u = Value.ref C := rx
  refine getsm_ok I1 sm fun s1' I1' => ?_
  refine PySem.W.callWith_K (h₀ := X.base) I.ok.mod.kin sm.kp (thn (ha.run pos pins s1' σ H1 _ I1' q) fun us s2 ⟨vs, H2, I2, r, q2⟩ => ⟨I2.kIn, ?_⟩) hst hpl
  exact run_fn (dvs := []) F (hr.mono hk) b .nil pass0 I2 r (by rw [List.append_nil]; exact q2)
theorem pe_smk {pl : Sem Bool} (c : SmK X.prog X.w X.K X.mg X.base k C m sp ks gV) (hr : Room j X.A) (hk : k ≤ j) (he : PE X o ta) (hkw : PK X kws tk)
    (hall : (backToKw pos (keywordEach kws X.env)).all (·.1.isSome) = true := by rfl) (hks : (backToKw pos (keywordEach kws X.env)).filterMap (·.1) = ks := by rfl)
    (hpl : ((backTo pos (starEach [] X.env)).any (·.1) || (backToKw pos (keywordEach kws X.env)).any (·.1.isNone)) = false := by rfl)
    (ht : eval (.Call (.Attribute o m apos) [] kws pos) X.env = (do
      let ov ← eval o X.env
      standAt apos.atName
      let (f, first) ← holding [ov] (getMethod ov m pl)
      callWith pos f first (backTo pos (starEach [] X.env)) (backToKw pos (keywordEach kws X.env))) := by rfl) :
    PE X (.Call (.Attribute o m apos) [] kws pos) (tSmK C ks.length sp gV ta tk) := by
  obtain ⟨f, fd, ps, g, sm, F, b⟩ := c.ex
  refine ⟨fun pins s σ H Q I h => ?_⟩
  refine PySem.W.methodCall_KW (pl := pl) (thn (he.run pins s σ H _ I h) fun u s1 ⟨x, H1, I1, rx, ex, q⟩ => ?_) ht
  subst ex
  obtain rfl : u = Value.ref C := rx
  refine getsm_ok I1 sm fun s1' I1' => ?_
  refine PySem.W.callWith_KW0 (h₀ := X.base) I.ok.mod.kin sm.kp hall ?_ hpl
  refine thn (hkw.run pos pins s1' σ H1 _ I1' q) fun ws s2 ⟨zs, H2, I2, rz, l2, q2⟩ => ⟨I2.kIn, ?_⟩
  rw [hks]
  exact run_kn (us := []) (vs := []) F (hr.mono hk) b I2 .nil rz rfl l2 q2
end
/-- the context stands over this text -/
structure Over (X : Cx) (P : Program) (w : World) (K : PySem.W.Frag) (mg : Str → Option Value) (base : Heap) : Prop where
  p : X.prog = P
  w : X.w = w
  k : X.K = K
  m : X.mg = mg
  b : X.base = base
section
variable {X : Cx} {P : Program} {w : World} {K : PySem.W.Frag} {mg : Str → Option Value} {base : Heap} {k j : Nat} {C : Addr} {sp : Sp}
theorem op_eqO' (c : Op2 P w K mg base k C "__eq__" sp) (hr : Room j X.A) (hk : k ≤ j) (e : Over X P w K mg base := by exact ⟨rfl, rfl, rfl, rfl, rfl⟩) : OpR X (compareOp .Eq) (rEqO K C sp) := by
  obtain ⟨rfl, rfl, rfl, rfl, rfl⟩ := e
  exact op_eqO c (hr.mono hk)
theorem op_neO' (c : Op2 P w K mg base k C "__eq__" sp) (hr : Room j X.A) (hk : k + 1 ≤ j) (hne : PySem.W.findIn K (.ref C) "__ne__" = some (some (.builtin "object.__ne__"))) (hm : PySem.W.mroIn K C (.type "object") = some true) (e : Over X P w K mg base := by exact ⟨rfl, rfl, rfl, rfl, rfl⟩) : OpR X (compareOp .NotEq) (rNeO K C sp) := by
  obtain ⟨rfl, rfl, rfl, rfl, rfl⟩ := e
  exact op_neO c (hr.mono hk) hne hm
theorem call_strO' (c : Op2 P w K mg base k C "__str__" sp) (hr : Room j X.A) (hk : k + 2 ≤ j) (e : Over X P w K mg base := by exact ⟨rfl, rfl, rfl, rfl, rfl⟩) : CallR X (.type "str") (rReprO C sp) := by
  obtain ⟨rfl, rfl, rfl, rfl, rfl⟩ := e
  exact call_strO c (hr.mono hk)
theorem call_reprO' (c : Op2 P w K mg base k C "__repr__" sp) (hr : Room j X.A) (hk : k + 1 ≤ j) (e : Over X P w K mg base := by exact ⟨rfl, rfl, rfl, rfl, rfl⟩) : CallR X (.builtin "repr") (rReprO C sp) := by
  obtain ⟨rfl, rfl, rfl, rfl, rfl⟩ := e
  exact call_reprO c (hr.mono hk)
theorem call_isi' (e : X.K = K := by (conv => lhs; whnf)) : CallR X (.builtin "isinstance") (rIsi K) := by
  subst e
  exact call_isi
end
/-! the built-ins by their names -/
theorem bt_len : bootBuiltins "len" = some (.builtin "len") := by decide +kernel
theorem bt_abs : bootBuiltins "abs" = some (.builtin "abs") := by decide +kernel
theorem bt_max : bootBuiltins "max" = some (.builtin "max") := by decide +kernel
theorem bt_min : bootBuiltins "min" = some (.builtin "min") := by decide +kernel
theorem bt_divmod : bootBuiltins "divmod" = some (.builtin "divmod") := by decide +kernel
theorem bt_isinstance : bootBuiltins "isinstance" = some (.builtin "isinstance") := by decide +kernel
theorem bt_all : bootBuiltins "all" = some (.builtin "all") := by decide +kernel
theorem bt_any : bootBuiltins "any" = some (.builtin "any") := by decide +kernel
theorem bt_repr : bootBuiltins "repr" = some (.builtin "repr") := by decide +kernel
theorem bt_sorted : bootBuiltins "sorted" = some (.builtin "sorted") := by decide +kernel
theorem bt_enumerate : bootBuiltins "enumerate" = some (.type "enumerate") := by decide +kernel
theorem bt_zip : bootBuiltins "zip" = some (.type "zip") := by decide +kernel
theorem bt_range : bootBuiltins "range" = some (.type "range") := by decide +kernel
theorem bt_sum : bootBuiltins "sum" = some (.builtin "sum") := by decide +kernel
theorem bt_int : bootBuiltins "int" = some (.type "int") := by decide +kernel
theorem bt_str : bootBuiltins "str" = some (.type "str") := by decide +kernel
theorem bt_list : bootBuiltins "list" = some (.type "list") := by decide +kernel
theorem bt_tuple : bootBuiltins "tuple" = some (.type "tuple") := by decide +kernel
theorem bt_bool : bootBuiltins "bool" = some (.type "bool") := by decide +kernel
theorem bt_dict : bootBuiltins "dict" = some (.type "dict") := by decide +kernel
theorem bt_set : bootBuiltins "set" = some (.type "set") := by decide +kernel
theorem bt_type : bootBuiltins "type" = some (.type "type") := by decide +kernel
end Mv
set_option Elab.async false
set_option maxRecDepth 100000
set_option maxHeartbeats 4000000
namespace Mv
open PySem PySem.Spec PyProof.Rows L2
theorem same_new {H : Hp} {p : Addr} {o : HO} (h : H p = none) : Same H (upd H p o) := fun z u e => by rw [upd_ne (ne_of_none e h)]; exact e
/-- a new instance and its dict -/
theorem same_make {H : Hp} {x dx : Addr} {o o' : HO} (hx : H x = none) (hdx : H dx = none) (hne : dx ≠ x) : Same H (upd (upd H dx o) x o') :=
  (same_new hdx).trans (same_new (by rw [upd_ne (Ne.symm hne)]; exact hx))
/-- what a new object's writes leave: H' is H0 but for D -/
theorem same_over {H0 H : Hp} {D : Addr} {o : HO} (s : Same H0 H) (hD : H0 D = none) : Same H0 (upd H D o) := fun z u e => by
  rw [upd_ne (ne_of_none e hD)]; exact s _ _ e
/-- [e for x in xs] over a list that stands still, each item's value told by ys; the items may lay new objects, nothing old changes -/
theorem lc_map {K : PySem.W.Frag} {a : Addr} {xs : List V} {n : Nat} {te : TE} {vs : List Nat} {σ : L2.St} {H0 : Hp} {D : Addr} {Qd : Hp → Prop} (ys : List V) (hl : ys.length = xs.length) (hz : ys.length ≤ 100000) (hD : H0 D = none) (hS : SqL K H0 a xs)
    (hw : ∀ x, wipe ((wipe σ vs).set n (some x)) vs = wipe σ vs)
    (hs : ∀ (i : Nat) (x : V) (H : Hp) (Q : VK), xs[i]? = some x → Same H0 H → (∀ y H4, ys[i]? = some y → Same H H4 → Q y H4) → te ((wipe σ vs).set n (some x)) H Q)
    (hd : ∀ H, Same H0 H → H D = some (.lst ys) → Qd H) :
    ∃ W : Nat → Nat → Hp → Prop, (∃ m, W 0 m (upd H0 D (.lst []))) ∧ ∀ i m H, W i m H →
      ((Itl K a).stop i H ∧ Qd H) ∨ ((Itl K a).go i H ∧ ∃ Nx : Hp → Prop, (∀ H', Nx H' → ∃ m', m' < m ∧ W (i + 1) m' H') ∧ ∀ x H', (Itl K a).yld i H x H' → gName n x (wipe σ vs) H' fun σ2 H2 => wipe σ2 vs = wipe σ vs ∧ tYes σ2 H2 fun b H3 =>
        if b = true then te σ2 H3 fun y H4 => ∃ acc, H4 D = some (.lst acc) ∧ acc.length < sizeLine ∧ Nx (upd H4 D (.lst (acc ++ [y]))) else Nx H3) := by
  refine lc_list (K := K) (a := a) (xs := xs) (fun j H' => Same H0 H' ∧ H' D = some (.lst (ys.take j))) ⟨same_new hD, by rw [upd_same]; simp⟩ (fun j H' _ ⟨s, _⟩ => s.seq hS) ?_ ?_
  · rintro i x H hi ⟨sm, ed⟩
    refine ⟨hw x, hs i x H _ hi sm fun y H4 hy s4 => ⟨_, s4 _ _ ed, ?_, same_over (sm.trans s4) hD, ?_⟩⟩
    · have := (List.getElem?_eq_some_iff.mp hy).1
      rw [List.length_take]; unfold sizeLine; omega
    · rw [upd_same, List.take_add_one, hy]
      rfl
  · rintro H ⟨sm, ed⟩
    exact hd H sm (by rw [ed, ← hl, List.take_length])
/-- the same over range(n) -/
theorem lc_mapR {n : Nat} {k : Nat} {te : TE} {vs : List Nat} {σ : L2.St} {H0 : Hp} {D : Addr} {Qd : Hp → Prop} (ys : List V) (hl : ys.length = n) (hz : ys.length ≤ 100000) (hD : H0 D = none)
    (hw : ∀ x, wipe ((wipe σ vs).set k (some x)) vs = wipe σ vs)
    (hs : ∀ (i : Nat) (H : Hp) (Q : VK), i < n → Same H0 H → (∀ y H4, ys[i]? = some y → Same H H4 → Q y H4) → te ((wipe σ vs).set k (some (.int ((0 : Int) + i)))) H Q)
    (hd : ∀ H, Same H0 H → H D = some (.lst ys) → Qd H) :
    ∃ W : Nat → Nat → Hp → Prop, (∃ m, W 0 m (upd H0 D (.lst []))) ∧ ∀ i m H, W i m H →
      ((Itr 0 n).stop i H ∧ Qd H) ∨ ((Itr 0 n).go i H ∧ ∃ Nx : Hp → Prop, (∀ H', Nx H' → ∃ m', m' < m ∧ W (i + 1) m' H') ∧ ∀ x H', (Itr 0 n).yld i H x H' → gName k x (wipe σ vs) H' fun σ2 H2 => wipe σ2 vs = wipe σ vs ∧ tYes σ2 H2 fun b H3 =>
        if b = true then te σ2 H3 fun y H4 => ∃ acc, H4 D = some (.lst acc) ∧ acc.length < sizeLine ∧ Nx (upd H4 D (.lst (acc ++ [y]))) else Nx H3) := by
  refine lc_range (lo := 0) (n := n) (fun j H' => Same H0 H' ∧ H' D = some (.lst (ys.take j))) ⟨same_new hD, by rw [upd_same]; simp⟩ ?_ ?_
  · rintro i H hi ⟨sm, ed⟩
    refine ⟨hw _, hs i H _ hi sm fun y H4 hy s4 => ⟨_, s4 _ _ ed, ?_, same_over (sm.trans s4) hD, ?_⟩⟩
    · have := (List.getElem?_eq_some_iff.mp hy).1
      rw [List.length_take]; unfold sizeLine; omega
    · rw [upd_same, List.take_add_one, hy]
      rfl
  · rintro H ⟨sm, ed⟩
    exact hd H sm (by rw [ed, ← hl, List.take_length])
end Mv
set_option Elab.async false
set_option maxRecDepth 100000
set_option maxHeartbeats 4000000
namespace Mv
open PySem PySem.Spec PyProof.Rows L2
/-- the law is called where no repr is running: from an abstract heap H that tracks at most the script at a -/
theorem run_law {P : Program} {w : World} {K : PySem.W.Frag} {mg mb : Str → Option Value} {k : Nat} {fa a : Addr} {fd : FuncData} {x : Str} {sp : Sp} {s : Shared} {H : Hp} (KX : K.In s.heap) (hns : s.heap.Ns mainGlobals mg) (hb : s.heap.Ns builtinsNs mb)
    (hbb : ∀ x : Str, x ≠ "__name__" → mb x = bootBuiltins x) (hlim : s.heap.NoLimit) (hg : s.gens = #[]) (hr : Room k callerA) (F : ∀ base : Heap, K.In base → base.Ns mainGlobals mg → FnG P w K mg base k fa fd [x] sp)
    (hbind : ∀ (s : Shared) (u : Value), BindsTo s fd ⟨[u], []⟩ [(x, u)]) (hok : HOk P w H s.heap) (free : ∀ b o, s.heap.get? b = some o → (K.lookup b ≠ none ∨ ∃ es n, o.data = .dict es n) → H b = none)
    (frz : ∀ b u, H b = some u → ∃ o v, u = .frz o v) (hsp : sp [.ref a] H (fun v _ => v = .bl true) E0) :
    codeAny (model P w) callerA (.call (.ref fa) ⟨[.ref a], []⟩) (fun r s' => r = .ok (.ret (.bool true)) ∧ OldK s.heap s'.heap ∧ s'.os = s.os ∧ AllBare s'.gens) s := by
  have ns : ∀ {b : Addr} {m : Str → Option Value}, s.heap.Ns b m → (hidT s.heap H).Ns b m := fun {b m} h => by
    obtain ⟨o, es, ep, e, d, r⟩ := h
    exact ⟨o, es, ep, hidT_get e (free b o e (.inr ⟨es, ep, d⟩)), d, r⟩
  have kb : K.In (hidT s.heap H) := fun b o e => hidT_get (KX b o e) (free b o (KX b o e) (.inl (by rw [e]; simp)))
  have md : Mod K mg (hidT s.heap H) := by
    refine ⟨kb, ns hns, ⟨mb, ns hb, hbb⟩, ?_⟩
    obtain ⟨mc, h1, h2⟩ := hlim
    exact ⟨mc, ns h1, h2⟩
  have e0 : Env0 P w K mg (hidT s.heap H) callerA [] s H :=
    { frames := rfl, mod := md, bs := fun b o e => of_hidT e, bsz := Nat.le_of_eq (hidT_size _ _), funs := trivial, frf := fun b z => by simp [frs] at z, hok := hok, bare := .of_eq hg }
  refine codeAny_mono ((F _ kb (ns hns)).run callerA [] s H ⟨[.ref a], []⟩ [.ref a] [.ref a] _ E0 hr rfl e0 (hbind s (.ref a)) (.cons rfl .nil) hsp) fun r s' h => ?_
  rcases r with e | fl
  · exact False.elim h
  rcases fl with _ | _ | _ | u
  · exact False.elim h
  · exact False.elim h
  · exact False.elim h
  obtain ⟨v, H', os, bare, un, hok', rv, rfl⟩ := h
  obtain rfl : u = Value.bool true := rv
  refine ⟨rfl, OldK.of_keep fun b o e => ?_, os, bare⟩
  by_cases q : H b = none
  · exact un.keep b o e q (by simp [frs]) (by simp)
  · obtain ⟨u, q⟩ := Option.ne_none_iff_exists'.mp q
    obtain ⟨ob, v, rfl⟩ := frz b u q
    have g1 := (hok b _ q).1
    have g2 := (hok' b _ (un.frzs b ob v q)).1
    rw [e] at g1
    cases g1
    exact g2
/-- .. with the script tracked, or as an object of the module -/
theorem law_g {P : Program} {w : World} {K : PySem.W.Frag} {mg mb : Str → Option Value} {k : Nat} {fa a : Addr} {fd : FuncData} {x : Str} {sp : Sp} {s : Shared} {vs : List Value} {ns : List Int} (KX : K.In s.heap) (hns : s.heap.Ns mainGlobals mg) (hb : s.heap.Ns builtinsNs mb)
    (hbb : ∀ x : Str, x ≠ "__name__" → mb x = bootBuiltins x) (hlim : s.heap.NoLimit) (hg : s.gens = #[]) (ha : s.heap.get? a = some { cls := .type "list", data := .seq vs.toArray }) (hi : IntsAre vs ns) (hl : ns.length ≤ sizeLine) (hr : Room k callerA)
    (F : ∀ base : Heap, K.In base → base.Ns mainGlobals mg → FnG P w K mg base k fa fd [x] sp) (hbind : ∀ (s : Shared) (u : Value), BindsTo s fd ⟨[u], []⟩ [(x, u)])
    (hsp : ∀ H : Hp, SqL K H a (ns.map V.int) → sp [.ref a] H (fun v _ => v = .bl true) E0) :
    codeAny (model P w) callerA (.call (.ref fa) ⟨[.ref a], []⟩) (fun r s' => r = .ok (.ret (.bool true)) ∧ OldK s.heap s'.heap ∧ s'.os = s.os ∧ AllBare s'.gens) s := by
  have rv := vals_ints hi
  by_cases hk : K.lookup a = none
  · let so : Obj := { cls := .type "list", data := .seq vs.toArray }
    have at_a : ∀ b u, (if b = a then some (HO.frz so (.lst (ns.map V.int))) else none) = some u → b = a ∧ u = .frz so (.lst (ns.map V.int)) := fun b u z => by
      by_cases e : b = a
      · rw [if_pos e] at z; cases z; exact ⟨e, rfl⟩
      · rw [if_neg e] at z; cases z
    refine run_law (H := fun b => if b = a then some (.frz so (.lst (ns.map V.int))) else none) KX hns hb hbb hlim hg hr F hbind ?_ ?_ ?_ (hsp _ (.inl (.inr ⟨so, if_pos rfl⟩)))
    · intro b u z
      obtain ⟨rfl, rfl⟩ := at_a b u z
      exact ⟨ha, by rw [List.length_map]; exact hl, vs, _, rv, ha⟩
    · intro b o e h
      by_cases eb : b = a
      · subst eb
        rw [ha] at e
        cases e
        rcases h with h | ⟨es, n, h⟩
        · exact absurd hk h
        · cases h
      · exact if_neg eb
    · intro b u z
      obtain ⟨_, rfl⟩ := at_a b u z
      exact ⟨_, _, rfl⟩
  · obtain ⟨o, hko⟩ := Option.ne_none_iff_exists'.mp hk
    have e := KX a o hko
    rw [ha] at e
    cases e
    refine run_law (H := fun _ => none) KX hns hb hbb hlim hg hr F hbind (fun b u z => nomatch z) (fun _ _ _ _ => rfl) (fun b u z => nomatch z) (hsp _ (.inr ⟨_, vs.toArray, _, hko, rfl, rfl, rfl, ?_, by simpa using rv⟩))
    have := hi.length
    simp; omega
theorem walk_g {l : PySem.W.OpenLaw} {n k : Nat} {q : Program} {loose : List Str} {XP : (Str → Option Value) → Heap → Prop} {YP : World → Heap → Prop} {d : DefRec} {K : Params → PySem.W.Frag} {sp : PySem.W.Frag → Sp} {x : Str}
    (hn : l.most = some n) (hn2 : n ≤ sizeLine) (hdf : d.params.defaults = []) (hr : Room k callerA) (hY : ∀ (w : World) (h : Heap), YP w h → (K w.params).In h)
    (F : ∀ (w : World) (mg : Str → Option Value) (fa : Addr) (h : Heap), (K w.params).In h → h.Ns mainGlobals mg → mg d.name = some (.ref fa) →
      ∃ fd : FuncData, (∀ (s : Shared) (u : Value), BindsTo s fd ⟨[u], []⟩ [(x, u)]) ∧ ∀ base : Heap, (K w.params).In base → base.Ns mainGlobals mg → FnG l.prog w (K w.params) mg base k fa fd [x] (sp (K w.params)))
    (hsp : ∀ (K : PySem.W.Frag) (H : Hp) (a : Addr) (ns : List Int), ns.length ≤ n → SqL K H a (ns.map V.int) → sp K [.ref a] H (fun v _ => v = .bl true) E0) :
    PySem.W.WalkO q loose XP YP l.row.toRowW d [] (fun f vs => PySem.call f vs) := by
  refine Att.attach_call hn hdf fun w s₀ s₁ mg mb fa o pm cd doc a vs ns G Y ho hd hcd hmg hobj hints hlen hg => ?_
  obtain ⟨fd, hb, hF⟩ := F w mg fa _ (hY w _ Y) G.T.g hmg
  exact law_g (hY w _ Y) G.T.g G.T.b G.T.builtins G.T.nolimit hg hobj hints (Nat.le_trans hlen hn2) hr hF hb fun H hS => hsp _ H a ns hlen hS
end Mv
set_option Elab.async false
set_option maxRecDepth 100000
set_option maxHeartbeats 4000000
/-! mvhd: the head by facts: the top's run in the kernel over the heap as a tree, the facts each a Bool of what the top has laid. -/
namespace Mv
open PySem PySem.Spec PyProof.Rows L2
/-! ### forced ahead of use -/
def fcA {β : Type} : List Addr → (List Addr → β) → β
  | [], k => k []
  | a :: r, k => HandSHeadRun.frNat a fun a => fcA r fun r => k (a :: r)
theorem fcA_eq {β : Type} : ∀ (l : List Addr) (k : List Addr → β), fcA l k = k l
  | [], _ => rfl
  | a :: r, k => by
    show HandSHeadRun.frNat a (fun a => fcA r fun r => k (a :: r)) = _
    rw [HandSHeadRun.frNat_eq, fcA_eq r]
def fcO {β : Type} (o : Obj) (k : Obj → β) : β := match o with
  | ⟨c, d, dt, sl⟩ => k ⟨c, d, dt, sl⟩
theorem fcO_eq {β : Type} (o : Obj) (k : Obj → β) : fcO o k = k o := by
  obtain ⟨c, d, dt, sl⟩ := o
  rfl
def fcK {β : Type} : PySem.W.Frag → (PySem.W.Frag → β) → β
  | [], k => k []
  | (a, o) :: r, k => fcO o fun o => fcK r fun r => k ((a, o) :: r)
theorem fcK_eq {β : Type} : ∀ (l : PySem.W.Frag) (k : PySem.W.Frag → β), fcK l k = k l
  | [], _ => rfl
  | (a, o) :: r, k => by
    show fcO o (fun o => fcK r fun r => k ((a, o) :: r)) = _
    rw [fcO_eq, fcK_eq r]
/-! ### what the top has laid -/
/-- objects that nothing here looks at -/
def dull : Obj → Bool
  | ⟨.none, none, .fields vs, _⟩ => vs.isEmpty
  | _ => false
def partG (g : Addr → Option Obj) : List Addr → PySem.W.Frag
  | [] => []
  | a :: r => match g a with
    | some o => (match dull o with
      | true => partG g r
      | false => (a, o) :: partG g r)
    | none => partG g r
theorem partG_at {g : Addr → Option Obj} {a : Addr} {o : Obj} : ∀ as : List Addr, (partG g as).lookup a = some o → g a = some o
  | [], e => nomatch (show (none : Option Obj) = some o from e)
  | b :: r, e => by
    unfold partG at e
    cases hb : g b with
    | none =>
      rw [hb] at e
      exact partG_at r e
    | some ob =>
      rw [hb] at e
      dsimp only at e
      cases hd : dull ob with
      | true =>
        rw [hd] at e
        exact partG_at r e
      | false =>
        rw [hd] at e
        have e2 : (match a == b with | true => some ob | false => (partG g r).lookup a) = some o := e
        cases q : (a == b) with
        | true =>
          rw [q] at e2
          cases e2
          rw [beq_iff_eq.mp q, hb]
        | false =>
          rw [q] at e2
          exact partG_at r e2
def upTo : Nat → Nat → List Addr
  | 0, _ => []
  | m + 1, n => n :: upTo m (n + 1)
/-! ### defs -/
structure DM where
  ad : PySem.W.Frag → Addr
  name : Str
  qual : Str
  st : Stmt
  dv : List He.Dv := []
abbrev SeeT : Type := Option (Str × Str × Arguments × FuncBody × Scope × Addr × List (Str × Addr) × Addr)
def DM.see (K : PySem.W.Frag) (d : DM) : SeeT := match K.lookup (d.ad K) with
  | some ⟨_, _, .func u, _⟩ => some (u.name, u.qualname, u.params, u.body, u.scope, u.globals, u.closure, u.builtins)
  | _ => none
def DM.val (d : DM) : SeeT := some (d.name, d.qual, defArgs d.st, .stmts (defBody d.st), defScope d.st, mainGlobals, [], builtinsNs)
def DM.dvs (K : PySem.W.Frag) (d : DM) : List V := d.dv.map (He.Dv.v K)
def DM.ok (K : PySem.W.Frag) (d : DM) : Bool := PySem.W.keepIn K (.ref (d.ad K)) && (match K.lookup (d.ad K) with
  | some ⟨_, _, .func u, _⟩ => PySem.W.codeIn K u.code d.qual && He.dflB K u.defaults (d.dvs K)
  | _ => false)
theorem DM.df {K : PySem.W.Frag} {d : DM} (e : d.see K = d.val) (c : d.ok K = true) : ∃ fd, Df K d.name d.qual d.st (d.dvs K) (d.ad K) fd := by
  have ⟨kp, c2⟩ := Bool.and_eq_true_iff.mp c
  unfold DM.see DM.val at e
  rcases q : K.lookup (d.ad K) with _ | ⟨oc, od, dt, osl⟩
  · rw [q] at c2; cases c2
  · rw [q] at c2 e
    cases dt with
    | func u =>
      have ⟨k1, k2⟩ := Bool.and_eq_true_iff.mp (show (PySem.W.codeIn K u.code d.qual && He.dflB K u.defaults (d.dvs K)) = true from c2)
      have k3 := He.dflB_ok k2
      cases u
      injection e with e
      simp only [Prod.mk.injEq] at e
      obtain ⟨rfl, rfl, h3, h4, h5, h6, h7, h8⟩ := e
      subst h3 h4 h5 h6 h7 h8
      exact ⟨_, ⟨oc, od, _, _, _, _, _, _, _, osl, rfl, q, k1, k3, .inl rfl⟩, kp⟩
    | _ => cases c2
/-! ### the Hook -/
abbrev AlM : Type := Bool × List SeeT
def obK (fa : List (PySem.W.Frag → Bool)) (fn : List DM) (K : PySem.W.Frag) : AlM := ((fa.all fun f => f K) && fn.all fun d => d.ok K, fn.map fun d => d.see K)
def vaM (fn : List DM) : AlM := (true, fn.map DM.val)
def SaM (fa : List (PySem.W.Frag → Bool)) (fn : List DM) (K : PySem.W.Frag) : Prop := obK fa fn K = vaM fn
def obM (n0 : Nat) (fa : List (PySem.W.Frag → Bool)) (fn : List DM) (n : Nat) (g : Addr → Option Obj) : AlM :=
  fcA (mainGlobals :: cStatics :: upTo (n - n0) n0) fun as => fcK (partG g as) fun K => obK fa fn K
theorem obM_eq {n0 : Nat} {fa : List (PySem.W.Frag → Bool)} {fn : List DM} {n : Nat} {g : Addr → Option Obj} : obM n0 fa fn n g = obK fa fn (partG g (mainGlobals :: cStatics :: upTo (n - n0) n0)) := by
  unfold obM
  rw [fcA_eq, fcK_eq]
def hookM (n0 : Nat) (fa : List (PySem.W.Frag → Bool)) (fn : List DM) : PySem.W.Hook where
  α := AlM
  obs := fun s => obM n0 fa fn s.heap.objs.size s.heap.get?
  val := fun _ => vaM fn
  says := fun _ h => ∃ K : PySem.W.Frag, K.In h ∧ SaM fa fn K
  of := fun _ _ e => ⟨_, fun _ _ => partG_at _, obM_eq.symm.trans e⟩
  keeps := fun _ _ _ ⟨K, hK, c⟩ k => ⟨K, PySem.W.Frag.In.keeps hK k, c⟩
def seeM (n0 : Nat) (fa : List (PySem.W.Frag → Bool)) (fn : List DM) (s : PySem.W.SharedT) : AlM := HandSHeadRun.frNat s.n fun n => obM n0 fa fn n (HandSHeadRun.getT s)
theorem seeM_eq {n0 : Nat} {fa : List (PySem.W.Frag → Bool)} {fn : List DM} (s : PySem.W.SharedT) : seeM n0 fa fn s = (hookM n0 fa fn).obs s.abs := by
  unfold seeM
  rw [HandSHeadRun.frNat_eq]
  have e : HandSHeadRun.getT s = s.abs.heap.get? := funext (HandSHeadRun.getT_eq s)
  have n : s.abs.heap.objs.size = s.n := PySem.W.absHeap_size _ _ _
  show _ = obM n0 fa fn s.abs.heap.objs.size s.abs.heap.get?
  rw [e, n]
theorem SaM.fact {fa : List (PySem.W.Frag → Bool)} {fn : List DM} {K : PySem.W.Frag} (c : SaM fa fn K) (i : Nat) {f : PySem.W.Frag → Bool} (h : fa[i]? = some f) : f K = true := by
  have c1 : ((fa.all fun f => f K) && fn.all fun d => d.ok K) = true := congrArg (fun z : AlM => z.1) c
  exact List.all_eq_true.mp (Bool.and_eq_true_iff.mp c1).1 f (List.mem_of_getElem? h)
theorem SaM.def_ {fa : List (PySem.W.Frag → Bool)} {fn : List DM} {K : PySem.W.Frag} (c : SaM fa fn K) (i : Nat) {d : DM} (h : fn[i]? = some d) : ∃ fd, Df K d.name d.qual d.st (d.dvs K) (d.ad K) fd := by
  have c1 : ((fa.all fun f => f K) && fn.all fun d => d.ok K) = true := congrArg (fun z : AlM => z.1) c
  have c2 : fn.map (fun d => d.see K) = fn.map DM.val := congrArg (fun z : AlM => z.2) c
  have e : (fn.map fun d => d.see K)[i]? = (fn.map DM.val)[i]? := by rw [c2]
  rw [List.getElem?_map, List.getElem?_map, h] at e
  exact DM.df (Option.some.inj e) (List.all_eq_true.mp (Bool.and_eq_true_iff.mp c1).2 d (List.mem_of_getElem? h))
/-! ### readings of what was found -/
/-- a class's own property: its getter -/
def recAd (K : PySem.W.Frag) (p : Addr) (T : String) : Addr := match PySem.W.recIn K p T with
  | some (.ref a :: _) => a
  | _ => 0
def recB (K : PySem.W.Frag) (p : Addr) (T : String) (f : Addr) : Bool := match PySem.W.recIn K p T with
  | some (.ref a :: _) => decide (a = f)
  | _ => false
theorem recB_ok {K : PySem.W.Frag} {p : Addr} {T : String} {f : Addr} (h : recB K p T f = true) : ∃ r, PySem.W.recIn K p T = some (.ref f :: r) := by
  unfold recB at h
  split at h
  · rename_i a r e
    rw [e, of_decide_eq_true h]
    exact ⟨_, rfl⟩
  · cases h
def strB (o : Option (Option Value)) (z : Str) : Bool := match o with
  | some (some (.str y _)) => decide (y = z)
  | _ => false
theorem strB_ok {o : Option (Option Value)} {z : Str} (h : strB o z = true) : ∃ t, o = some (some (.str z t)) := by
  unfold strB at h
  split at h
  · rw [of_decide_eq_true h]
    exact ⟨_, rfl⟩
  · cases h
def intB (o : Option (Option Value)) (i : Int) : Bool := match o with
  | some (some (.int j _)) => decide (j = i)
  | _ => false
theorem intB_ok {o : Option (Option Value)} {i : Int} (h : intB o i = true) : ∃ t, o = some (some (.int i t)) := by
  unfold intB at h
  split at h
  · rw [of_decide_eq_true h]
    exact ⟨_, rfl⟩
  · cases h
def cvB (o : Option PySem.W.CFound) (i : Int) : Bool := match o with
  | some (.val (.int j _)) => decide (j = i)
  | _ => false
theorem cvB_ok {o : Option PySem.W.CFound} {i : Int} (h : cvB o i = true) : ∃ t, o = some (.val (.int i t)) := by
  unfold cvB at h
  split at h
  · rw [of_decide_eq_true h]
    exact ⟨_, rfl⟩
  · cases h
/-- found at a class: a static method, a class method -/
def sgAd (o : Option PySem.W.CFound) : Addr := match o with
  | some (.get _ (.ref p) _ _) => p
  | _ => 0
def sgB (o : Option PySem.W.CFound) (g : String) (p : Addr) (x c : Value) : Bool := match o with
  | some (.get (.builtin h) (.ref q) y d) => decide (h = g) && (decide (q = p) && (decide (y = x) && decide (d = c)))
  | _ => false
theorem sgB_ok {o : Option PySem.W.CFound} {g : String} {p : Addr} {x c : Value} (h : sgB o g p x c = true) : o = some (.get (.builtin g) (.ref p) x c) := by
  unfold sgB at h
  split at h
  · have ⟨h1, h⟩ := Bool.and_eq_true_iff.mp h
    have ⟨h2, h⟩ := Bool.and_eq_true_iff.mp h
    have ⟨h3, h4⟩ := Bool.and_eq_true_iff.mp h
    rw [of_decide_eq_true h1, of_decide_eq_true h2, of_decide_eq_true h3, of_decide_eq_true h4]
  · cases h
/-- a tuple of two texts -/
def tup2B (o : Option Obj) (x y : Str) : Bool := match o with
  | some ⟨.type c, none, .seq its _, _⟩ => decide (c = "tuple") && (match its.toList with
    | [.str a _, .str b _] => decide (a = x) && decide (b = y)
    | _ => false)
  | _ => false
theorem tup2B_ok {o : Option Obj} {x y : Str} (h : tup2B o x y = true) : ∃ t u n s, o = some ⟨.type "tuple", none, .seq #[.str x t, .str y u] n, s⟩ := by
  unfold tup2B at h
  split at h
  · rename_i c its n s
    have ⟨h1, h2⟩ := Bool.and_eq_true_iff.mp h
    split at h2
    · rename_i a t b u e
      have ⟨h3, h4⟩ := Bool.and_eq_true_iff.mp h2
      have e2 : its = #[.str a t, .str b u] := by
        apply Array.toList_inj.mp
        rw [e]
      rw [of_decide_eq_true h1, e2, of_decide_eq_true h3, of_decide_eq_true h4]
      exact ⟨_, _, _, _, rfl⟩
    · cases h2
  · cases h
/-! ### the end -/
theorem walk_gM {l : PySem.W.OpenLaw} {n k : Nat} {q : Program} {loose : List Str} {XP : (Str → Option Value) → Heap → Prop} {YP : World → Heap → Prop} {d : DefRec} {sp : PySem.W.Frag → Sp} {x : Str}
    (hn : l.most = some n) (hn2 : n ≤ sizeLine) (hdf : d.params.defaults = []) (hr : Room k callerA)
    (F : ∀ (w : World) (mg : Str → Option Value) (fa : Addr) (h : Heap), YP w h → h.Ns mainGlobals mg → mg d.name = some (.ref fa) →
      ∃ (K : PySem.W.Frag) (fd : FuncData), K.In h ∧ (∀ (s : Shared) (u : Value), BindsTo s fd ⟨[u], []⟩ [(x, u)]) ∧ ∀ base : Heap, K.In base → base.Ns mainGlobals mg → FnG l.prog w K mg base k fa fd [x] (sp K))
    (hsp : ∀ (K : PySem.W.Frag) (H : Hp) (a : Addr) (ns : List Int), ns.length ≤ n → SqL K H a (ns.map V.int) → sp K [.ref a] H (fun v _ => v = .bl true) E0) :
    PySem.W.WalkO q loose XP YP l.row.toRowW d [] (fun f vs => PySem.call f vs) := by
  refine Att.attach_call hn hdf fun w s₀ s₁ mg mb fa o pm cd doc a vs ns G Y ho hd hcd hmg hobj hints hlen hg => ?_
  obtain ⟨K, fd, KX, hb, hF⟩ := F w mg fa _ Y G.T.g hmg
  exact law_g KX G.T.g G.T.b G.T.builtins G.T.nolimit hg hobj hints (Nat.le_trans hlen hn2) hr hF hb fun H hS => hsp _ H a ns hlen hS
end Mv
set_option Elab.async false
set_option maxRecDepth 100000
set_option maxHeartbeats 4000000
namespace T0
open PySem L2 Mv
open He (ga ma)
def top (i : Nat) : Stmt := PySem.Challenge.pw_movecells_k14_plans_told.main.body.getD i (.Pass ⟨0, 0, 0, 0⟩)
def q0 (K : PySem.W.Frag) : Bool := decide (PySem.W.specialIn K (.builtin "object.__class__") "__get__" = some (some (.builtin "getset_descriptor.__get__")))
def q1 (K : PySem.W.Frag) : Bool := decide (PySem.W.takesIn K (.builtin "object.__class__") = some true)
def q2 (K : PySem.W.Frag) : Bool := decide (PySem.W.nsIn K mainGlobals "len" = some none)
def q3 (K : PySem.W.Frag) : Bool := decide (PySem.W.nsIn K mainGlobals "abs" = some none)
def q4 (K : PySem.W.Frag) : Bool := decide (PySem.W.nsIn K mainGlobals "max" = some none)
def q5 (K : PySem.W.Frag) : Bool := decide (PySem.W.nsIn K mainGlobals "min" = some none)
def q6 (K : PySem.W.Frag) : Bool := decide (PySem.W.nsIn K mainGlobals "int" = some none)
def q7 (K : PySem.W.Frag) : Bool := decide (PySem.W.nsIn K mainGlobals "bool" = some none)
def q8 (K : PySem.W.Frag) : Bool := decide (PySem.W.nsIn K mainGlobals "str" = some none)
def q9 (K : PySem.W.Frag) : Bool := decide (PySem.W.nsIn K mainGlobals "repr" = some none)
def q10 (K : PySem.W.Frag) : Bool := decide (PySem.W.nsIn K mainGlobals "all" = some none)
def q11 (K : PySem.W.Frag) : Bool := decide (PySem.W.nsIn K mainGlobals "any" = some none)
def q12 (K : PySem.W.Frag) : Bool := decide (PySem.W.nsIn K mainGlobals "range" = some none)
def q13 (K : PySem.W.Frag) : Bool := decide (PySem.W.nsIn K mainGlobals "divmod" = some none)
def q14 (K : PySem.W.Frag) : Bool := decide (PySem.W.nsIn K mainGlobals "isinstance" = some none)
def q15 (K : PySem.W.Frag) : Bool := decide (PySem.W.nsIn K mainGlobals "list" = some none)
def q16 (K : PySem.W.Frag) : Bool := decide (PySem.W.nsIn K mainGlobals "tuple" = some none)
def q17 (K : PySem.W.Frag) : Bool := decide (PySem.W.nsIn K mainGlobals "dict" = some none)
def q18 (K : PySem.W.Frag) : Bool := decide (PySem.W.nsIn K mainGlobals "enumerate" = some none)
def q19 (K : PySem.W.Frag) : Bool := decide (PySem.W.nsIn K mainGlobals "zip" = some none)
def q20 (K : PySem.W.Frag) : Bool := decide (PySem.W.nsIn K mainGlobals "sorted" = some none)
def q21 (K : PySem.W.Frag) : Bool := decide (PySem.W.nsIn K mainGlobals "sum" = some none)
def q22 (K : PySem.W.Frag) : Bool := decide (PySem.W.nsIn K mainGlobals "type" = some none)
def q23 (K : PySem.W.Frag) : Bool := decide (PySem.W.nsIn K mainGlobals "Plan" = some (some (.ref (ga K "Plan"))))
def q24 (K : PySem.W.Frag) : Bool := PySem.W.plainGet K (ga K "Plan") Str.empty
def q25 (K : PySem.W.Frag) : Bool := PySem.W.hasDictIn K (ga K "Plan")
def q26 (K : PySem.W.Frag) : Bool := PySem.W.plainOver K (ga K "Plan")
def q27 (K : PySem.W.Frag) : Bool := decide (PySem.W.findIn K (.ref (ga K "Plan")) "__setattr__" = some (some (.builtin "object.__setattr__")))
def q28 (K : PySem.W.Frag) : Bool := PySem.W.makesIn K (ga K "Plan")
def q29 (K : PySem.W.Frag) : Bool := PySem.W.keepIn K (.ref (ga K "Plan"))
def q30 (K : PySem.W.Frag) : Bool := decide (PySem.W.findIn K (.ref (ga K "Plan")) "__class__" = some (some (.builtin "object.__class__")))
def q31 (K : PySem.W.Frag) : Bool := decide (PySem.W.mroIn K (ga K "Plan") (.type "object") = some true)
def q32 (K : PySem.W.Frag) : Bool := decide (PySem.W.kitOne K (.ref (ga K "Plan")) (.ref (ga K "Plan")) = some true)
def q33 (K : PySem.W.Frag) : Bool := decide (PySem.W.findIn K (.ref (ga K "Plan")) "__ne__" = some (some (.builtin "object.__ne__")))
def q34 (K : PySem.W.Frag) : Bool := decide (PySem.W.findIn K (.ref (ga K "Plan")) "own_rounds" = some none)
def q35 (K : PySem.W.Frag) : Bool := decide (PySem.W.findIn K (.ref (ga K "Plan")) "own_parts" = some none)
def q36 (K : PySem.W.Frag) : Bool := decide (PySem.W.findIn K (.ref (ga K "Plan")) "own_growth" = some none)
def q37 (K : PySem.W.Frag) : Bool := strB (PySem.W.nsIn K mainGlobals "EAST") "east"
def q38 (K : PySem.W.Frag) : Bool := strB (PySem.W.nsIn K mainGlobals "NORTH") "north"
def q39 (K : PySem.W.Frag) : Bool := intB (PySem.W.nsIn K mainGlobals "FEWEST_PARTS") 2
def q40 (K : PySem.W.Frag) : Bool := intB (PySem.W.nsIn K mainGlobals "MOST_PARTS") 4
def q41 (K : PySem.W.Frag) : Bool := intB (PySem.W.nsIn K mainGlobals "MOST_FINE") 1000
def q42 (K : PySem.W.Frag) : Bool := decide (PySem.W.nsIn K mainGlobals "AXES" = some (some (.ref (ga K "AXES"))))
def q43 (K : PySem.W.Frag) : Bool := tup2B (K.lookup (ga K "AXES")) "east" "north"
def q44 (K : PySem.W.Frag) : Bool := decide (PySem.W.typeIn K (.ref (ga K "Plan")) = some (.type "type"))
def q45 (K : PySem.W.Frag) : Bool := decide (PySem.W.specialIn K (.ref (ga K "Plan")) "__getattribute__" = some (some (.builtin "type.__getattribute__")))
def q46 (K : PySem.W.Frag) : Bool := PySem.W.readsIn K (ga K "Plan") (.type "type")
def q47 (K : PySem.W.Frag) : Bool := cvB (PySem.W.findCls K (.ref (ga K "Plan")) (.type "type") "MOST_ROUNDS") 3
def q48 (K : PySem.W.Frag) : Bool := cvB (PySem.W.findCls K (.ref (ga K "Plan")) (.type "type") "MOST_CUTS") 5
def q49 (K : PySem.W.Frag) : Bool := cvB (PySem.W.findCls K (.ref (ga K "Plan")) (.type "type") "MOST_SIGNS") 32
def q50 (K : PySem.W.Frag) : Bool := decide (PySem.W.kitOne K (.type "NoneType") (.ref (ga K "Plan")) = some false)
def q51 (K : PySem.W.Frag) : Bool := PySem.W.notFirst K (ga K "Plan") (.type "NoneType")
def q52 (K : PySem.W.Frag) : Bool := decide (PySem.W.kitOne K (.type "bool") (.ref (ga K "Plan")) = some false)
def q53 (K : PySem.W.Frag) : Bool := PySem.W.notFirst K (ga K "Plan") (.type "bool")
def q54 (K : PySem.W.Frag) : Bool := decide (PySem.W.kitOne K (.type "str") (.ref (ga K "Plan")) = some false)
def q55 (K : PySem.W.Frag) : Bool := PySem.W.notFirst K (ga K "Plan") (.type "str")
def q56 (K : PySem.W.Frag) : Bool := decide (PySem.W.kitOne K (.type "int") (.ref (ga K "Plan")) = some false)
def q57 (K : PySem.W.Frag) : Bool := PySem.W.notFirst K (ga K "Plan") (.type "int")
def q58 (K : PySem.W.Frag) : Bool := decide (PySem.W.kitOne K (.type "list") (.ref (ga K "Plan")) = some false)
def q59 (K : PySem.W.Frag) : Bool := PySem.W.notFirst K (ga K "Plan") (.type "list")
def q60 (K : PySem.W.Frag) : Bool := decide (PySem.W.kitOne K (.type "tuple") (.ref (ga K "Plan")) = some false)
def q61 (K : PySem.W.Frag) : Bool := PySem.W.notFirst K (ga K "Plan") (.type "tuple")
def q62 (K : PySem.W.Frag) : Bool := decide (PySem.W.kitOne K (.type "dict") (.ref (ga K "Plan")) = some false)
def q63 (K : PySem.W.Frag) : Bool := PySem.W.notFirst K (ga K "Plan") (.type "dict")
def q64 (K : PySem.W.Frag) : Bool := decide (PySem.W.nsIn K mainGlobals "law" = some (some (.ref (ga K "law"))))
def q65 (K : PySem.W.Frag) : Bool := decide (PySem.W.nsIn K mainGlobals "_law_pot" = some (some (.ref (ga K "_law_pot"))))
def q66 (K : PySem.W.Frag) : Bool := decide (PySem.W.nsIn K mainGlobals "_law_right" = some (some (.ref (ga K "_law_right"))))
def q67 (K : PySem.W.Frag) : Bool := decide (PySem.W.nsIn K mainGlobals "_law_draw" = some (some (.ref (ga K "_law_draw"))))
def q68 (K : PySem.W.Frag) : Bool := decide (PySem.W.nsIn K mainGlobals "_law_rounds" = some (some (.ref (ga K "_law_rounds"))))
def q69 (K : PySem.W.Frag) : Bool := decide (PySem.W.nsIn K mainGlobals "_law_pick" = some (some (.ref (ga K "_law_pick"))))
def q70 (K : PySem.W.Frag) : Bool := decide (PySem.W.nsIn K mainGlobals "_law_mixed" = some (some (.ref (ga K "_law_mixed"))))
def q71 (K : PySem.W.Frag) : Bool := decide (PySem.W.nsIn K mainGlobals "_law_product" = some (some (.ref (ga K "_law_product"))))
def q72 (K : PySem.W.Frag) : Bool := decide (PySem.W.nsIn K mainGlobals "_law_plan" = some (some (.ref (ga K "_law_plan"))))
def q73 (K : PySem.W.Frag) : Bool := decide (PySem.W.findIn K (.ref (ga K "Plan")) "__init__" = some (some (.ref (ma K (ga K "Plan") "__init__"))))
def q74 (K : PySem.W.Frag) : Bool := PySem.W.isFn K (.ref (ma K (ga K "Plan") "__init__"))
def q75 (K : PySem.W.Frag) : Bool := decide (PySem.W.nsIn K mainGlobals "want_rounds" = some (some (.ref (ga K "want_rounds"))))
def q76 (K : PySem.W.Frag) : Bool := decide (PySem.W.nsIn K mainGlobals "is_round" = some (some (.ref (ga K "is_round"))))
def q77 (K : PySem.W.Frag) : Bool := decide (PySem.W.nsIn K mainGlobals "is_list" = some (some (.ref (ga K "is_list"))))
def q78 (K : PySem.W.Frag) : Bool := decide (PySem.W.nsIn K mainGlobals "is_cut" = some (some (.ref (ga K "is_cut"))))
def q79 (K : PySem.W.Frag) : Bool := decide (PySem.W.nsIn K mainGlobals "is_axis" = some (some (.ref (ga K "is_axis"))))
def q80 (K : PySem.W.Frag) : Bool := decide (PySem.W.nsIn K mainGlobals "are_parts" = some (some (.ref (ga K "are_parts"))))
def q81 (K : PySem.W.Frag) : Bool := decide (PySem.W.nsIn K mainGlobals "is_integer" = some (some (.ref (ga K "is_integer"))))
def q82 (K : PySem.W.Frag) : Bool := decide (PySem.W.nsIn K mainGlobals "parts_along" = some (some (.ref (ga K "parts_along"))))
def q83 (K : PySem.W.Frag) : Bool := decide (PySem.W.findIn K (.ref (ga K "Plan")) "product_of" = some (some (.ref (ma K (ga K "Plan") "product_of"))))
def q84 (K : PySem.W.Frag) : Bool := PySem.W.isFn K (.ref (ma K (ga K "Plan") "product_of"))
def q85 (K : PySem.W.Frag) : Bool := decide (PySem.W.nsIn K mainGlobals "_law_told_right" = some (some (.ref (ga K "_law_told_right"))))
def q86 (K : PySem.W.Frag) : Bool := decide (PySem.W.nsIn K mainGlobals "_law_round_right" = some (some (.ref (ga K "_law_round_right"))))
def q87 (K : PySem.W.Frag) : Bool := decide (PySem.W.nsIn K mainGlobals "_law_parts" = some (some (.ref (ga K "_law_parts"))))
def q88 (K : PySem.W.Frag) : Bool := decide (PySem.W.nsIn K mainGlobals "_law_place" = some (some (.ref (ga K "_law_place"))))
def q89 (K : PySem.W.Frag) : Bool := decide (PySem.W.findIn K (.ref (ga K "Plan")) "signs" = some (some (.ref (ma K (ga K "Plan") "signs"))))
def q90 (K : PySem.W.Frag) : Bool := PySem.W.isFn K (.ref (ma K (ga K "Plan") "signs"))
def q91 (K : PySem.W.Frag) : Bool := decide (PySem.W.findIn K (.ref (ga K "Plan")) "parts" = some (some (.ref (ma K (ga K "Plan") "parts"))))
def q92 (K : PySem.W.Frag) : Bool := PySem.W.isFn K (.ref (ma K (ga K "Plan") "parts"))
def q93 (K : PySem.W.Frag) : Bool := decide (PySem.W.nsIn K mainGlobals "want_phase" = some (some (.ref (ga K "want_phase"))))
def q94 (K : PySem.W.Frag) : Bool := decide (PySem.W.nsIn K mainGlobals "is_count" = some (some (.ref (ga K "is_count"))))
def q95 (K : PySem.W.Frag) : Bool := decide (PySem.W.findIn K (.ref (ga K "Plan")) "__len__" = some (some (.ref (ma K (ga K "Plan") "__len__"))))
def q96 (K : PySem.W.Frag) : Bool := PySem.W.isFn K (.ref (ma K (ga K "Plan") "__len__"))
def q97 (K : PySem.W.Frag) : Bool := decide (PySem.W.findIn K (.ref (ga K "Plan")) "place_of" = some (some (.ref (ma K (ga K "Plan") "place_of"))))
def q98 (K : PySem.W.Frag) : Bool := PySem.W.isFn K (.ref (ma K (ga K "Plan") "place_of"))
def q99 (K : PySem.W.Frag) : Bool := decide (PySem.W.nsIn K mainGlobals "want_sign" = some (some (.ref (ga K "want_sign"))))
def q100 (K : PySem.W.Frag) : Bool := decide (PySem.W.nsIn K mainGlobals "place_in" = some (some (.ref (ga K "place_in"))))
def q101 (K : PySem.W.Frag) : Bool := decide (PySem.W.nsIn K mainGlobals "along" = some (some (.ref (ga K "along"))))
def q102 (K : PySem.W.Frag) : Bool := decide (PySem.W.findIn K (.ref (ga K "Plan")) "sign_at" = some (some (.ref (ma K (ga K "Plan") "sign_at"))))
def q103 (K : PySem.W.Frag) : Bool := PySem.W.isFn K (.ref (ma K (ga K "Plan") "sign_at"))
def q104 (K : PySem.W.Frag) : Bool := decide (PySem.W.nsIn K mainGlobals "sign_in" = some (some (.ref (ga K "sign_in"))))
def q105 (K : PySem.W.Frag) : Bool := decide (PySem.W.nsIn K mainGlobals "_law_counts_right" = some (some (.ref (ga K "_law_counts_right"))))
def q106 (K : PySem.W.Frag) : Bool := decide (PySem.W.findIn K (.ref (ga K "Plan")) "counts" = some (some (.ref (ma K (ga K "Plan") "counts"))))
def q107 (K : PySem.W.Frag) : Bool := PySem.W.isFn K (.ref (ma K (ga K "Plan") "counts"))
def q108 (K : PySem.W.Frag) : Bool := decide (PySem.W.nsIn K mainGlobals "want_fineness" = some (some (.ref (ga K "want_fineness"))))
def q109 (K : PySem.W.Frag) : Bool := decide (PySem.W.findIn K (.ref (ga K "Plan")) "phase" = some (some (.ref (ma K (ga K "Plan") "phase"))))
def q110 (K : PySem.W.Frag) : Bool := PySem.W.isFn K (.ref (ma K (ga K "Plan") "phase"))
def q111 (K : PySem.W.Frag) : Bool := decide (PySem.W.findIn K (.ref (ga K "Plan")) "growth" = some (some (.ref (ma K (ga K "Plan") "growth"))))
def q112 (K : PySem.W.Frag) : Bool := decide (PySem.W.specialIn K (.ref (ma K (ga K "Plan") "growth")) "__get__" = some (some (.builtin "property.__get__")))
def q113 (K : PySem.W.Frag) : Bool := decide (PySem.W.takesIn K (.ref (ma K (ga K "Plan") "growth")) = some true)
def q114 (K : PySem.W.Frag) : Bool := recB K (ma K (ga K "Plan") "growth") "property" (recAd K (ma K (ga K "Plan") "growth") "property")
def q115 (K : PySem.W.Frag) : Bool := decide (PySem.W.findIn K (.ref (ga K "Plan")) "rounds" = some (some (.ref (ma K (ga K "Plan") "rounds"))))
def q116 (K : PySem.W.Frag) : Bool := PySem.W.isFn K (.ref (ma K (ga K "Plan") "rounds"))
def q117 (K : PySem.W.Frag) : Bool := decide (PySem.W.findIn K (.ref (ga K "Plan")) "__repr__" = some (some (.ref (ma K (ga K "Plan") "__repr__"))))
def q118 (K : PySem.W.Frag) : Bool := PySem.W.isFn K (.ref (ma K (ga K "Plan") "__repr__"))
def q119 (K : PySem.W.Frag) : Bool := decide (PySem.W.nsIn K mainGlobals "_law_turned_right" = some (some (.ref (ga K "_law_turned_right"))))
def q120 (K : PySem.W.Frag) : Bool := decide (PySem.W.findIn K (.ref (ga K "Plan")) "turned" = some (some (.ref (ma K (ga K "Plan") "turned"))))
def q121 (K : PySem.W.Frag) : Bool := PySem.W.isFn K (.ref (ma K (ga K "Plan") "turned"))
def q122 (K : PySem.W.Frag) : Bool := decide (PySem.W.findIn K (.ref (ga K "Plan")) "__init__" = some (some (.ref (ma K (ga K "Plan") "__init__"))))
def q123 (K : PySem.W.Frag) : Bool := PySem.W.isFn K (.ref (ma K (ga K "Plan") "__init__"))
def q124 (K : PySem.W.Frag) : Bool := decide (PySem.W.findIn K (.ref (ga K "Plan")) "__eq__" = some (some (.ref (ma K (ga K "Plan") "__eq__"))))
def q125 (K : PySem.W.Frag) : Bool := PySem.W.isFn K (.ref (ma K (ga K "Plan") "__eq__"))
def q126 (K : PySem.W.Frag) : Bool := decide (PySem.W.nsIn K mainGlobals "_law_others" = some (some (.ref (ga K "_law_others"))))
def q127 (K : PySem.W.Frag) : Bool := decide (PySem.W.nsIn K mainGlobals "_law_equal_right" = some (some (.ref (ga K "_law_equal_right"))))
def q128 (K : PySem.W.Frag) : Bool := decide (PySem.W.nsIn K mainGlobals "_law_plan" = some (some (.ref (ga K "_law_plan"))))
def q129 (K : PySem.W.Frag) : Bool := decide (PySem.W.findIn K (.ref (ga K "Plan")) "__eq__" = some (some (.ref (ma K (ga K "Plan") "__eq__"))))
def q130 (K : PySem.W.Frag) : Bool := PySem.W.isFn K (.ref (ma K (ga K "Plan") "__eq__"))
def q131 (K : PySem.W.Frag) : Bool := decide (PySem.W.nsIn K mainGlobals "_law_known_right" = some (some (.ref (ga K "_law_known_right"))))
def q132 (K : PySem.W.Frag) : Bool := decide (PySem.W.specialIn K (.ref (ga K "Plan")) "__getattribute__" = some (some (.builtin "type.__getattribute__")))
def q133 (K : PySem.W.Frag) : Bool := PySem.W.readsIn K (ga K "Plan") (.type "type")
def q134 (K : PySem.W.Frag) : Bool := sgB (PySem.W.findCls K (.ref (ga K "Plan")) (.type "type") "squares") "classmethod.__get__" (sgAd (PySem.W.findCls K (.ref (ga K "Plan")) (.type "type") "squares")) .none (.ref (ga K "Plan"))
def q135 (K : PySem.W.Frag) : Bool := recB K (sgAd (PySem.W.findCls K (.ref (ga K "Plan")) (.type "type") "squares")) "classmethod" (recAd K (sgAd (PySem.W.findCls K (.ref (ga K "Plan")) (.type "type") "squares")) "classmethod")
def q136 (K : PySem.W.Frag) : Bool := PySem.W.fnIn K (recAd K (sgAd (PySem.W.findCls K (.ref (ga K "Plan")) (.type "type") "squares")) "classmethod")
def q137 (K : PySem.W.Frag) : Bool := decide (PySem.W.specialIn K (.ref (ga K "Plan")) "__getattribute__" = some (some (.builtin "type.__getattribute__")))
def q138 (K : PySem.W.Frag) : Bool := PySem.W.readsIn K (ga K "Plan") (.type "type")
def q139 (K : PySem.W.Frag) : Bool := sgB (PySem.W.findCls K (.ref (ga K "Plan")) (.type "type") "codes") "classmethod.__get__" (sgAd (PySem.W.findCls K (.ref (ga K "Plan")) (.type "type") "codes")) .none (.ref (ga K "Plan"))
def q140 (K : PySem.W.Frag) : Bool := recB K (sgAd (PySem.W.findCls K (.ref (ga K "Plan")) (.type "type") "codes")) "classmethod" (recAd K (sgAd (PySem.W.findCls K (.ref (ga K "Plan")) (.type "type") "codes")) "classmethod")
def q141 (K : PySem.W.Frag) : Bool := PySem.W.fnIn K (recAd K (sgAd (PySem.W.findCls K (.ref (ga K "Plan")) (.type "type") "codes")) "classmethod")
def d_law : DM := ⟨fun K => (ga K "law"), "law", "law", top 53, []⟩
def d_pot : DM := ⟨fun K => (ga K "_law_pot"), "_law_pot", "_law_pot", top 36, []⟩
def d_right : DM := ⟨fun K => (ga K "_law_right"), "_law_right", "_law_right", top 52, []⟩
def d_draw : DM := ⟨fun K => (ga K "_law_draw"), "_law_draw", "_law_draw", top 37, []⟩
def d_rounds : DM := ⟨fun K => (ga K "_law_rounds"), "_law_rounds", "_law_rounds", top 41, []⟩
def d_pick : DM := ⟨fun K => (ga K "_law_pick"), "_law_pick", "_law_pick", top 38, []⟩
def d_mixed : DM := ⟨fun K => (ga K "_law_mixed"), "_law_mixed", "_law_mixed", top 39, []⟩
def d_lprod : DM := ⟨fun K => (ga K "_law_product"), "_law_product", "_law_product", top 40, []⟩
def d_lplan2 : DM := ⟨fun K => (ga K "_law_plan"), "_law_plan", "_law_plan", top 42, []⟩
def d_init2 : DM := ⟨fun K => (ma K (ga K "Plan") "__init__"), "__init__", "Plan.__init__", inClass (top 32) 3, []⟩
def d_wantrounds : DM := ⟨fun K => (ga K "want_rounds"), "want_rounds", "want_rounds", top 28, []⟩
def d_isround : DM := ⟨fun K => (ga K "is_round"), "is_round", "is_round", top 26, []⟩
def d_islist : DM := ⟨fun K => (ga K "is_list"), "is_list", "is_list", top 14, []⟩
def d_iscut : DM := ⟨fun K => (ga K "is_cut"), "is_cut", "is_cut", top 25, []⟩
def d_isaxis : DM := ⟨fun K => (ga K "is_axis"), "is_axis", "is_axis", top 22, []⟩
def d_areparts : DM := ⟨fun K => (ga K "are_parts"), "are_parts", "are_parts", top 24, []⟩
def d_isint : DM := ⟨fun K => (ga K "is_integer"), "is_integer", "is_integer", top 12, []⟩
def d_along1 : DM := ⟨fun K => (ga K "parts_along"), "parts_along", "parts_along", top 27, []⟩
def d_prod : DM := ⟨fun K => (ma K (ga K "Plan") "product_of"), "product_of", "Plan.product_of", inClass (top 32) 6, []⟩
def d_tright : DM := ⟨fun K => (ga K "_law_told_right"), "_law_told_right", "_law_told_right", top 47, []⟩
def d_rright : DM := ⟨fun K => (ga K "_law_round_right"), "_law_round_right", "_law_round_right", top 45, []⟩
def d_lparts : DM := ⟨fun K => (ga K "_law_parts"), "_law_parts", "_law_parts", top 44, []⟩
def d_lplace : DM := ⟨fun K => (ga K "_law_place"), "_law_place", "_law_place", top 43, []⟩
def d_signs : DM := ⟨fun K => (ma K (ga K "Plan") "signs"), "signs", "Plan.signs", inClass (top 32) 10, []⟩
def d_parts : DM := ⟨fun K => (ma K (ga K "Plan") "parts"), "parts", "Plan.parts", inClass (top 32) 11, []⟩
def d_wantphase : DM := ⟨fun K => (ga K "want_phase"), "want_phase", "want_phase", top 33, []⟩
def d_count : DM := ⟨fun K => (ga K "is_count"), "is_count", "is_count", top 13, []⟩
def d_plen : DM := ⟨fun K => (ma K (ga K "Plan") "__len__"), "__len__", "Plan.__len__", inClass (top 32) 16, []⟩
def d_placeof : DM := ⟨fun K => (ma K (ga K "Plan") "place_of"), "place_of", "Plan.place_of", inClass (top 32) 12, []⟩
def d_wantsign : DM := ⟨fun K => (ga K "want_sign"), "want_sign", "want_sign", top 34, []⟩
def d_placein : DM := ⟨fun K => (ga K "place_in"), "place_in", "place_in", top 30, []⟩
def d_along : DM := ⟨fun K => (ga K "along"), "along", "along", top 29, []⟩
def d_signat : DM := ⟨fun K => (ma K (ga K "Plan") "sign_at"), "sign_at", "Plan.sign_at", inClass (top 32) 13, []⟩
def d_signin : DM := ⟨fun K => (ga K "sign_in"), "sign_in", "sign_in", top 31, []⟩
def d_cright : DM := ⟨fun K => (ga K "_law_counts_right"), "_law_counts_right", "_law_counts_right", top 46, []⟩
def d_pcounts : DM := ⟨fun K => (ma K (ga K "Plan") "counts"), "counts", "Plan.counts", inClass (top 32) 14, []⟩
def d_wantfine : DM := ⟨fun K => (ga K "want_fineness"), "want_fineness", "want_fineness", top 23, []⟩
def d_pphase : DM := ⟨fun K => (ma K (ga K "Plan") "phase"), "phase", "Plan.phase", inClass (top 32) 9, []⟩
def d_pgrowth : DM := ⟨fun K => (recAd K (ma K (ga K "Plan") "growth") "property"), "growth", "Plan.growth", inClass (top 32) 7, []⟩
def d_prounds : DM := ⟨fun K => (ma K (ga K "Plan") "rounds"), "rounds", "Plan.rounds", inClass (top 32) 8, []⟩
def d_prepr : DM := ⟨fun K => (ma K (ga K "Plan") "__repr__"), "__repr__", "Plan.__repr__", inClass (top 32) 18, []⟩
def d_turight : DM := ⟨fun K => (ga K "_law_turned_right"), "_law_turned_right", "_law_turned_right", top 50, []⟩
def d_turned : DM := ⟨fun K => (ma K (ga K "Plan") "turned"), "turned", "Plan.turned", inClass (top 32) 15, []⟩
def d_init : DM := ⟨fun K => (ma K (ga K "Plan") "__init__"), "__init__", "Plan.__init__", inClass (top 32) 3, []⟩
def d_peq : DM := ⟨fun K => (ma K (ga K "Plan") "__eq__"), "__eq__", "Plan.__eq__", inClass (top 32) 17, []⟩
def d_lothers : DM := ⟨fun K => (ga K "_law_others"), "_law_others", "_law_others", top 48, []⟩
def d_eqright : DM := ⟨fun K => (ga K "_law_equal_right"), "_law_equal_right", "_law_equal_right", top 49, []⟩
def d_lplan : DM := ⟨fun K => (ga K "_law_plan"), "_law_plan", "_law_plan", top 42, []⟩
def d_peqx : DM := ⟨fun K => (ma K (ga K "Plan") "__eq__"), "__eq__", "Plan.__eq__", inClass (top 32) 17, []⟩
def d_kright : DM := ⟨fun K => (ga K "_law_known_right"), "_law_known_right", "_law_known_right", top 51, []⟩
def d_psquares : DM := ⟨fun K => (recAd K (sgAd (PySem.W.findCls K (.ref (ga K "Plan")) (.type "type") "squares")) "classmethod"), "squares", "Plan.squares", inClass (top 32) 4, []⟩
def d_pcodes : DM := ⟨fun K => (recAd K (sgAd (PySem.W.findCls K (.ref (ga K "Plan")) (.type "type") "codes")) "classmethod"), "codes", "Plan.codes", inClass (top 32) 5, []⟩
def fcs0 : List (PySem.W.Frag → Bool) := [q0, q1, q2, q3, q4, q5, q6, q7, q8, q9, q10, q11, q12, q13, q14, q15, q16, q17, q18, q19, q20, q21, q22, q23, q24, q25, q26, q27, q28, q29]
def fcs1 : List (PySem.W.Frag → Bool) := [q30, q31, q32, q33, q34, q35, q36, q37, q38, q39, q40, q41, q42, q43, q44, q45, q46, q47, q48, q49, q50, q51, q52, q53, q54, q55, q56, q57, q58, q59]
def fcs2 : List (PySem.W.Frag → Bool) := [q60, q61, q62, q63, q64, q65, q66, q67, q68, q69, q70, q71, q72, q73, q74, q75, q76, q77, q78, q79, q80, q81, q82, q83, q84, q85, q86, q87, q88, q89]
def fcs3 : List (PySem.W.Frag → Bool) := [q90, q91, q92, q93, q94, q95, q96, q97, q98, q99, q100, q101, q102, q103, q104, q105, q106, q107, q108, q109, q110, q111, q112, q113, q114, q115, q116, q117, q118, q119]
def fcs4 : List (PySem.W.Frag → Bool) := [q120, q121, q122, q123, q124, q125, q126, q127, q128, q129, q130, q131, q132, q133, q134, q135, q136, q137, q138, q139, q140, q141]
def fcs : List (PySem.W.Frag → Bool) := fcs0 ++ (fcs1 ++ (fcs2 ++ (fcs3 ++ (fcs4))))
def dfs0 : List (DM) := [d_law, d_pot, d_right, d_draw, d_rounds, d_pick, d_mixed, d_lprod, d_lplan2, d_init2, d_wantrounds, d_isround, d_islist, d_iscut, d_isaxis, d_areparts, d_isint, d_along1, d_prod, d_tright, d_rright, d_lparts, d_lplace, d_signs, d_parts, d_wantphase, d_count, d_plen, d_placeof, d_wantsign]
def dfs1 : List (DM) := [d_placein, d_along, d_signat, d_signin, d_cright, d_pcounts, d_wantfine, d_pphase, d_pgrowth, d_prounds, d_prepr, d_turight, d_turned, d_init, d_peq, d_lothers, d_eqright, d_lplan, d_peqx, d_kright, d_psquares, d_pcodes]
def dfs : List (DM) := dfs0 ++ (dfs1)
def nms0 : List Str := ["CellError", "InvalidNumber", "InvalidRounds", "InvalidPhase", "InvalidSign", "InvalidPair", "StateError", "NotBalanced", "LimitError", "TooMany", "is_integer", "is_count", "is_list", "EAST", "NORTH", "AXES", "FEWEST_PARTS", "MOST_PARTS", "MOST_FINE", "is_axis"]
def nms1 : List Str := ["want_fineness", "are_parts", "is_cut", "is_round", "parts_along", "want_rounds", "along", "place_in", "sign_in", "Plan", "want_phase", "want_sign", "_law_pot", "_law_draw", "_law_pick", "_law_mixed", "_law_product", "_law_rounds", "_law_plan", "_law_place"]
def nms2 : List Str := ["_law_parts", "_law_round_right", "_law_counts_right", "_law_told_right", "_law_others", "_law_equal_right", "_law_turned_right", "_law_known_right", "_law_right"]
def nms : List Str := nms0 ++ nms1 ++ nms2
abbrev Ro : PySem.W.OpenRow := PySem.W.OpenLaw.row PySem.Challenge.rw_movecells_k14_plans_told
abbrev hkM : PySem.W.Hook := hookM 0 fcs dfs
theorem topRuns (w : World) : HandSHeadRun.RunEq Ro (PySem.W.view Ro.prog [53]) hkM (seeM 0 fcs dfs) 60000 nms w := by
  intro os
  kernel_rfl
end T0
set_option Elab.async false
set_option maxRecDepth 100000
set_option maxHeartbeats 4000000
namespace Mv
open PySem PySem.Spec PyProof.Rows L2
/-! ### len(x) by an own __len__ -/
def rLenO (C : Addr) (sp : Sp) : List V → Hp → VK → Prop := fun xs H Q => ∃ a dx fs, xs = [.ref a] ∧ H a = some (.ins C dx fs) ∧ sp [.ref a] H (fun v H' => ∃ n : Int, v = .int n ∧ 0 ≤ n ∧ n < 2 ^ 63 ∧ Q (.int n) H') E0
section
variable {X : Cx} {k : Nat} {C : Addr} {sp : Sp}
theorem call_lenO (c : Op2 X.prog X.w X.K X.mg X.base k C "__len__" sp) (hr : Room (k + 1) X.A) : CallR X (.builtin "len") (rLenO C sp) := by
  obtain ⟨g, fd, ps, F, hb, hs, hf⟩ := c.ex
  intro pins s σ H xs us Q I r h
  obtain ⟨a, dx, fs, rfl, ea, q⟩ := h
  obtain ⟨u, rfl, ru⟩ := vals1 r
  obtain rfl : u = Value.ref a := ru
  obtain ⟨mA, O, _⟩ := ins_get I.hok ea
  obtain ⟨od, J, _⟩ := O.look
  obtain ⟨m, hF⟩ := I.fr
  refine PySem.W.len_K hF I.ok.mod.kin J hs hf ?_
  refine wpAny_mono (run_at (vs := [.ref a]) F hr.in1 I.ok.frames hb I (.cons rfl .nil) q) (fun w s' z => ?_) fun _ _ x => x
  obtain ⟨z', H', I', rz, n, rfl, h0, h1, qz⟩ := z
  obtain ⟨tk, rfl⟩ := rz
  exact ⟨⟨h0, h1⟩, .int n, H', I'.tok _, ⟨_, rfl⟩, qz⟩
theorem call_lenO' {P : Program} {w : World} {K : PySem.W.Frag} {mg : Str → Option Value} {base : Heap} {j : Nat} (c : Op2 P w K mg base k C "__len__" sp) (hr : Room j X.A) (hk : k + 1 ≤ j) (e : Over X P w K mg base := by exact ⟨rfl, rfl, rfl, rfl, rfl⟩) : CallR X (.builtin "len") (rLenO C sp) := by
  obtain ⟨rfl, rfl, rfl, rfl, rfl⟩ := e
  exact call_lenO c (hr.mono hk)
end
/-! ### lists and tuples alike -/
/-- true: a list, false: a tuple -/
def SqK (b : Bool) (K : PySem.W.Frag) (H : Hp) (a : Addr) (xs : List V) : Prop := if b then SqL K H a xs else SqT K H a xs
def ItK (b : Bool) (K : PySem.W.Frag) (a : Addr) : It := if b then Itl K a else Itt K a
theorem walk_K {b : Bool} {K : PySem.W.Frag} {a : Addr} {xs : List V} : Walk (ItK b K a) xs.length (fun H => SqK b K H a xs) (YAt xs) := by
  cases b
  · exact walk_tup
  · exact walk_list
def iSeq (K : PySem.W.Frag) (te : TE) : TI := fun σ H R => te σ H fun x H1 => ∃ b a xs, x = .ref a ∧ SqK b K H1 a xs ∧ R (ItK b K a) H1
theorem pi_seq {X : Cx} {tg e : Expr} {te : TE} (h : PE X e te) : PI X tg e (iSeq X.K te) := by
  refine ⟨fun pins s σ H R I hh => ?_⟩
  -- both ways, by cases behind the value
  refine thn (h.run pins s σ H _ I hh) fun v s1 ⟨x, H1, I1, r1, b, a, xs, e1, hq, q⟩ => ?_
  subst e1
  cases r1
  cases b with
  | true =>
    obtain ⟨its, rv, p, hz⟩ := I1.list hq
    refine wpAny_pyIter_list p.isList ?_
    refine ⟨s1.heap.objs.size, [s1.heap.objs.size], _, _, H1, rfl, I1.kept (t' := s1.toks) fun b o e => Heap.get?_push_of_some _ e, turn_list a _, ⟨_, Heap.get?_push_size _ rfl, rfl, rfl⟩, fun b hb => ?_, q⟩
    have e : b = s1.heap.objs.size := by simpa using hb
    subst e
    exact I1.fpOk (Nat.le_refl _) (I1.hok.fresh (Nat.le_refl _))
  | false =>
    obtain ⟨its, rv, p, hz⟩ := I1.tuple hq
    refine wpAny_pyIter_tuple (show s1.heap.IsTuple a its.toArray from p) ?_
    refine ⟨s1.heap.objs.size, [s1.heap.objs.size], _, _, H1, rfl, I1.kept (t' := s1.toks) fun b o e => Heap.get?_push_of_some _ e, turn_tuple a _, ⟨_, Heap.get?_push_size _ rfl, rfl, rfl⟩, fun b hb => ?_, q⟩
    have e : b = s1.heap.objs.size := by simpa using hb
    subst e
    exact I1.fpOk (Nat.le_refl _) (I1.hok.fresh (Nat.le_refl _))
/-! ### enumerate of a tuple -/
def IteT (K : PySem.W.Frag) (a : Addr) : It :=
  ⟨fun i H => ∃ (xs : List V) (x : V), SqT K H a xs ∧ xs[i]? = some x, fun i H v H' => ∃ T x, v = .ref T ∧ H T = none ∧ H' = upd H T (.tup [.int (i : Nat), x]) ∧ ∀ xs, SqT K H a xs → xs[i]? = some x, fun i H => ∃ xs : List V, SqT K H a xs ∧ xs.length ≤ i⟩
theorem call_enumB {prog : Program} {w : World} {A : Around} {E : Value → Shared → Prop} {s : Shared} {v : Value} {o : Obj} {Hx : Heap → Prop} {Q : Value → Shared → Prop} (B : Begins v o Hx) (h1 : Hx s.heap)
    (h : ∀ h', IsEnum h' (s.heap.objs.size + 1) s.heap.objs.size 0 .none → h'.get? s.heap.objs.size = some o → h'.objs.size = s.heap.objs.size + 2 →
      (∀ b o, s.heap.get? b = some o → h'.get? b = some o) → Q (.ref (s.heap.objs.size + 1)) { s with heap := h' }) :
    wpAny (model prog w) A (call (.type "enumerate") [v]) Q E s := by
  have mt : Meets (Builtin.«enumerate.__new__» ⟨[.type "enumerate", v], []⟩) (fun _ R s => Hx s.heap ∧
      R (.ok (.ret (.ref (s.heap.push o).objs.size))) { s with heap := (s.heap.push o).push { cls := .type "enumerate", data := .fields #[.none, .bool false, .ref s.heap.objs.size, rawInt 0, .none, .none] } }) :=
    .of_wp fun prog w A R s h => by
      obtain ⟨hp, g, d, tk, os⟩ := s; obtain ⟨h1, h⟩ := h
      have hsub := sub_enumerate
      have q1 : ∀ {A' : Around} {E : Value → Shared → Prop} {Q : Value → Shared → Prop}, Q (.ref hp.objs.size) ⟨hp.push o, g, d, tk, os⟩ → wpAny (model prog w) A' (pyIter v) Q E ⟨hp, g, d, tk, os⟩ :=
        fun q => B.iter prog w _ _ ⟨hp, g, d, tk, os⟩ _ h1 q
      wp_walk using q1
      refine wpAny_stack_any fun st => wpAny_pure ?_
      split
      · rename_i c _ _ _ _ _
        cases (c == Value.type "enumerate")
        · wp_walk using q1
          exact ⟨_, rfl, h⟩
        · wp_walk using q1
          exact ⟨_, rfl, h⟩
      · wp_walk using q1
        exact ⟨_, rfl, h⟩
  refine callType_new F.called_enumerate (by decide) (F.typeCall_enumerate_1 _) (F.newCall_enumerate_1 _) (fun obj => F.args_object_init_2 obj _) F.entry_enumerate_new mt ⟨h1, ?_⟩
  have hz : (s.heap.push o).objs.size = s.heap.objs.size + 1 := Heap.size_push ..
  show _ ∧ _
  rw [hz]
  have he : IsEnum ((s.heap.push o).push { cls := .type "enumerate", data := .fields #[.none, .bool false, .ref s.heap.objs.size, rawInt 0, .none, .none] }) (s.heap.objs.size + 1) s.heap.objs.size 0 .none := by
    have := Heap.get?_push_size (s.heap.push o) (o := { cls := .type "enumerate", data := .fields #[.none, .bool false, .ref s.heap.objs.size, rawInt 0, .none, .none] }) rfl
    rw [hz] at this; exact this
  refine ⟨⟨_, he, rfl⟩, h _ he (Heap.get?_push_of_some _ (Heap.get?_push_size _ B.free)) (by rw [Heap.size_push, hz]) fun b o x => Heap.get?_push_of_some _ (Heap.get?_push_of_some _ x)⟩
theorem turn_enumT {P : Program} {w : World} {K : PySem.W.Frag} {elts : List Expr} {kk : Nat} {tpos : Pos} (a e it : Addr) (hai : a ≠ it) (hae : a ≠ e) :
    Turn P w K (.Tuple elts kk tpos) (IteT K a) [e, it] e (fun i h => (∃ old, IsEnum h e it ((i : Nat) : Int) old) ∧ h.IsTupleIter it a i ∧ e ≠ it) where
  mem := by simp
  obj := fun i h st b hb => by
    obtain ⟨⟨old, he⟩, ⟨o, ho, hc, hd⟩, _⟩ := st
    have e' : b = e ∨ b = it := by simpa using hb
    rcases e' with z | z
    · rw [z]; exact ⟨_, he, fun v q => nomatch q⟩
    · rw [z]; exact ⟨o, ho, fun v q => by rw [hd] at q; cases q⟩
  keep := fun i h h' st k => let ⟨⟨old, he⟩, hi, hne⟩ := st; ⟨⟨old, k e (by simp) _ he⟩, hi.at fun o q => k it (by simp) o q, hne⟩
  item := by
    intro X hP hw hK hc i pins s σ H E I hf st hg
    subst hP hw hK
    obtain ⟨⟨old, he⟩, hit, hne⟩ := st
    obtain ⟨xs, x, hq, hx⟩ := hg
    obtain ⟨its, rv, p, hz⟩ := I.tuple hq
    obtain ⟨u, hu, ru⟩ := rv.get hx
    have hel : e < s.heap.objs.size := Heap.lt_size he
    have hil : it < s.heap.objs.size := by obtain ⟨_, q, _⟩ := hit; exact Heap.lt_size q
    have pt : s.heap.IsTuple a its.toArray := p
    have hu' : its.toArray[i]? = some u := by simpa using hu
    have hlt : i < its.toArray.size := by
      rcases Nat.lt_or_ge i its.toArray.size with z | z
      · exact z
      · rw [Array.getElem?_eq_none z] at hu'; cases hu'
    refine wpAny_pyNext_enum_itemD (Draws.tuple (A := X.A.in1) (I.ok.hd hc) it a hai its.toArray) he ⟨hit, pt⟩ hlt hne (by simp; exact ⟨hne, fun z => hae z.symm⟩) fun x' h' tk hPx ho hst' hT hsz hk => ?_
    obtain rfl : x' = u := by
      have z : its.toArray[i]? = some x' := hPx
      rw [hu'] at z
      exact (Option.some.inj z).symm
    obtain ⟨hit', pt'⟩ := hst'
    refine ⟨_, rfl, wpAny_letOwnedTupleGo_enum (s := { s with heap := h', toks := tk + 1 }) ho fun h'' he' sb => ?_⟩
    have hT2 : h''.get? s.heap.objs.size = some { cls := .type "tuple", data := .seq #[.int i tk, x'] } := (sb.2 _ (Nat.ne_of_gt hel)).trans hT
    have new : ObjOk X.prog X.w (upd H s.heap.objs.size (.tup [.int (i : Nat), x])) h'' s.heap.objs.size (.tup [.int (i : Nat), x]) :=
      ⟨by show 2 ≤ sizeLine; decide, [.int i tk, x'], .cons ⟨_, rfl⟩ (.cons ru .nil), ⟨_, hT2, rfl, _, rfl⟩⟩
    have I1 : Inv X pins σ (upd H s.heap.objs.size (.tup [.int (i : Nat), x])) { s with heap := h'', toks := tk + 1 } :=
      I.turnedNew (ch := [e, it]) (fun b ob hb q => (sb.2 b (fun z => hb (by simp [z]))).trans (hk b ob (fun z => hb (by simp [z])) (fun z => hb (by simp [z])) q)) hf (Nat.le_refl _) new
    refine ⟨.ref s.heap.objs.size, _, I1, rfl, ⟨_, x, rfl, I.hok.fresh (Nat.le_refl _), rfl, fun ys hy => by rw [I.tuple_inj hy hq]; exact hx⟩, ⟨⟨x', ?_⟩, hit'.at fun o q => (sb.2 it (Ne.symm hne)).trans q, hne⟩, fun b hb => ?_⟩
    · have e1 : ((i + 1 : Nat) : Int) = (i : Int) + 1 := by omega
      rw [e1]; exact he'
    · have hb' : b < s.heap.objs.size := by
        have e' : b = e ∨ b = it := by simpa using hb
        rcases e' with z | z
        · rw [z]; exact hel
        · rw [z]; exact hil
      rw [upd_ne (Nat.ne_of_lt hb')]
      exact (hf b hb).1
  done := by
    intro X hP hw hK hc i pins s σ H E I hf st hg
    subst hP hw hK
    obtain ⟨⟨old, he⟩, hit, hne⟩ := st
    obtain ⟨xs, hq, hx⟩ := hg
    obtain ⟨its, rv, p, hz⟩ := I.tuple hq
    obtain ⟨f0, f1, f2, f3, f4, f5⟩ := hf it (by simp)
    have hl := rv.length
    have pt : s.heap.IsTuple a its.toArray := p
    have hT : s.TypeIs (.ref e) "enumerate" := ⟨_, he, rfl⟩
    unfold pyNext
    refine wpAny_bind (wpAny_attempt (wpAny_callSpecial?_slot (name := Str.ofString "__next__") hT F.slot_enumerate_next
      (wpAny_call_entry F.slot_enumerate_next hT F.entry_enumerate_next ?_ (F.args_enumerate_next_1 _))))
    show wpAny _ _ (field (.ref e) 2 >>= _) _ _ _
    refine wpAny_bind (wpAny_field he rfl (x := .ref it) rfl ?_)
    refine wpAny_bind (wpAny_nextOf_tuple_end (I.ok.hd hc) hit pt (by simp; omega) fun h' x eb hx' => ?_)
    obtain ⟨o, ho, hc'⟩ := hx'
    refine wpAny_bind (wpAny_isInstance (T := "StopIteration") (b := true) ⟨o, ho, hc'⟩ isSubtype_stop ?_)
    exact wpAny_pure ⟨rfl, I.turned (t' := s.toks) (fun b o hb q => eb b o hb q) f0 f1 f3 f4 f5⟩
  self := fun A i s Q E st h => let ⟨⟨_, he⟩, _⟩ := st; wpAny_pyIter_enum he h
def IteK (b : Bool) (K : PySem.W.Frag) (a : Addr) : It := if b then Ite K a else IteT K a
theorem walk_enumT {K : PySem.W.Frag} {a : Addr} {xs : List V} : Walk (IteT K a) xs.length (fun H => SqT K H a xs) (YPair (fun i => some (.int (i : Nat))) (fun i => xs[i]?)) := by
  refine ⟨fun i _ hi q => ⟨xs, xs[i], q, by simp [hi]⟩, fun _ q => ⟨xs, q, Nat.le_refl _⟩, fun i H v H' _ q y => ?_⟩
  obtain ⟨T, x, h1, h2, h3, h4⟩ := y
  exact ⟨T, .int (i : Nat), x, h1, h2, h3, rfl, h4 xs q⟩
theorem walk_enumK {b : Bool} {K : PySem.W.Frag} {a : Addr} {xs : List V} : Walk (IteK b K a) xs.length (fun H => SqK b K H a xs) (YPair (fun i => some (.int (i : Nat))) (fun i => xs[i]?)) := by
  cases b
  · exact walk_enumT
  · exact walk_enum
def iEnumA (K : PySem.W.Frag) (ta : TA) : TI := fun σ H R => ta σ H fun vs H1 => ∃ b a xs, vs = [.ref a] ∧ SqK b K H1 a xs ∧ R (IteK b K a) H1
theorem pi_enumA {X : Cx} {e : Expr} {ta : TA} {p pos tpos : Pos} {elts : List Expr} {kk : Nat} (hg : Gl X "enumerate") (hm : X.mg "enumerate" = none) (ha : PA X [e] ta) (hs : starEach [e] X.env = [(false, eval e X.env)] := by rfl) :
    PI X (.Tuple elts kk tpos) (.Call (.Name "enumerate" p) [e] [] pos) (iEnumA X.K ta) := by
  refine ⟨fun pins s σ H R I h => ?_⟩
  refine Call_ (ld_blt I hg hm boot_enumerate (PyProof.Rows.callWith_type1 (thn (ha.run pos pins s σ H _ I h) fun us s1 ⟨vs, H1, I1, r1, q1⟩ => ?_) hs rfl))
  obtain ⟨b, a, xs, ex, hq, q⟩ := q1
  subst ex
  have fresh2 : ∀ b, b ∈ [s1.heap.objs.size + 1, s1.heap.objs.size] → FpOk X pins H1 b := fun b hb => by
    have e' : b = s1.heap.objs.size + 1 ∨ b = s1.heap.objs.size := by simpa using hb
    have hle : s1.heap.objs.size ≤ b := by
      rcases e' with z | z
      · rw [z]; exact Nat.le_add_right _ _
      · rw [z]; exact Nat.le_refl _
    exact I1.fpOk hle (I1.hok.fresh hle)
  cases r1 with
  | cons r rr =>
    cases rr
    cases r
    cases b with
    | true =>
      obtain ⟨its, rv, p', hz⟩ := I1.list hq
      refine call_enumerate_list p'.isList fun h' he hit hsz hk => wpAny_pyIter_enum he ?_
      have I2 : Inv X pins σ H1 { s1 with heap := h' } := I1.kept (t' := s1.toks) hk
      exact ⟨s1.heap.objs.size + 1, [s1.heap.objs.size + 1, s1.heap.objs.size], _, _, H1, rfl, I2, turn_enum a (s1.heap.objs.size + 1) s1.heap.objs.size, ⟨⟨.none, he⟩, hit, Nat.succ_ne_self _⟩, fresh2, q⟩
    | false =>
      obtain ⟨its, rv, p', hz⟩ := I1.tuple hq
      have pt : s1.heap.IsTuple a its.toArray := p'
      have hal : a < s1.heap.objs.size := by obtain ⟨_, q, _⟩ := id pt; exact Heap.lt_size q
      refine call_enumB (begins_tuple a its.toArray) pt fun h' he hit hsz hk => wpAny_pyIter_enum he ?_
      have I2 : Inv X pins σ H1 { s1 with heap := h' } := I1.kept (t' := s1.toks) hk
      exact ⟨s1.heap.objs.size + 1, [s1.heap.objs.size + 1, s1.heap.objs.size], _, _, H1, rfl, I2, turn_enumT a (s1.heap.objs.size + 1) s1.heap.objs.size (Nat.ne_of_lt hal) (Nat.ne_of_lt (Nat.lt_succ_of_lt hal)), ⟨⟨.none, he⟩, ⟨_, hit, rfl, rfl⟩, Nat.succ_ne_self _⟩, fresh2, q⟩
/-- zip of tuples -/
theorem walk_zipT {K : PySem.W.Frag} {a b : Addr} {xs ys : List V} {n : Nat} (hn : n = min xs.length ys.length) : Walk (RZ.ItzT K a b) n (fun H => SqT K H a xs ∧ SqT K H b ys) (YPair (fun i => xs[i]?) (fun i => ys[i]?)) := by
  subst hn
  refine ⟨fun i _ hi q => ?_, fun _ q => ⟨xs, ys, q.1, q.2, by omega⟩, fun i H v H' _ q y => ?_⟩
  · have h1 : i < xs.length := by omega
    have h2 : i < ys.length := by omega
    exact ⟨xs, ys, xs[i], ys[i], q.1, q.2, by simp [h1], by simp [h2]⟩
  · obtain ⟨T, x, z, h1, h2, h3, h4, h5⟩ := y
    exact ⟨T, x, z, h1, h2, h3, h4 xs q.1, h5 ys q.2⟩
end Mv
set_option Elab.async false
set_option maxRecDepth 100000
set_option maxHeartbeats 4000000
namespace L2
open PySem PySem.Spec PyProof.Rows Mv
/-! ### data on the heap -/
theorem Same.rd {H H' : Hp} {a : Addr} {u : HO} (e : Same H H') (h : Rd H a u) : Rd H' a u := by
  rcases h with h | ⟨o, h⟩
  · exact .inl (e a _ h)
  · exact .inr ⟨o, e a _ h⟩
theorem Same.tup {K : PySem.W.Frag} {H H' : Hp} {a : Addr} {xs : List V} (e : Same H H') (h : SqT K H a xs) : SqT K H' a xs := by
  rcases h with h | h
  · exact .inl (Same.rd e h)
  · exact .inr h
theorem Same.sqk {K : PySem.W.Frag} {H H' : Hp} {b : Bool} {a : Addr} {xs : List V} (e : Same H H') (h : SqK b K H a xs) : SqK b K H' a xs := by
  cases b
  · exact Same.tup e h
  · exact e.seq h
section
variable {K : PySem.W.Frag} {H H' : Hp}
mutual
theorem Dp.same (s : Same H H') : ∀ (d : PyData) (v : V), Dp K H v d → Dp K H' v d
  | .none, _, h => by cases h; exact .non
  | .bool b, _, h => by cases h; exact .bl b
  | .int i, _, h => by cases h; exact .int i
  | .str x, _, h => by cases h; exact .str x
  | .list ds, _, h => by
    cases h with
    | lst hs ha => exact .lst (s.seq hs) (DpAll.same s ds _ ha)
  | .tuple ds, _, h => by
    cases h with
    | tup hs ha => exact .tup (Same.tup s hs) (DpAll.same s ds _ ha)
  | .dict _, _, h => by cases h
theorem DpAll.same (s : Same H H') : ∀ (ds : List PyData) (vs : List V), DpAll K H vs ds → DpAll K H' vs ds
  | [], _, h => by cases h; exact .nil
  | d :: ds, _, h => by
    cases h with
    | cons h1 h2 => exact .cons (Dp.same s d _ h1) (DpAll.same s ds _ h2)
end
theorem Dp.up {d : PyData} {v : V} (h : Dp K H v d) (s : Same H H') : Dp K H' v d := Dp.same s d v h
theorem DpAll.up {ds : List PyData} {vs : List V} (h : DpAll K H vs ds) (s : Same H H') : DpAll K H' vs ds := DpAll.same s ds vs h
theorem Dp.lstE {v : V} {ds : List PyData} (h : Dp K H v (.list ds)) : ∃ a xs, v = .ref a ∧ SqL K H a xs ∧ DpAll K H xs ds := by
  cases h with
  | lst hs ha => exact ⟨_, _, rfl, hs, ha⟩
theorem Dp.tupE {v : V} {ds : List PyData} (h : Dp K H v (.tuple ds)) : ∃ a xs, v = .ref a ∧ SqT K H a xs ∧ DpAll K H xs ds := by
  cases h with
  | tup hs ha => exact ⟨_, _, rfl, hs, ha⟩
theorem Dp.intE {v : V} {i : Int} (h : Dp K H v (.int i)) : v = .int i := by cases h; rfl
theorem Dp.strE {v : V} {x : Str} (h : Dp K H v (.str x)) : v = .str x := by cases h; rfl
theorem Dp.blE {v : V} {x : Bool} (h : Dp K H v (.bool x)) : v = .bl x := by cases h; rfl
/-- a list (true) or a tuple -/
def dSeq (b : Bool) (ds : List PyData) : PyData := if b then .list ds else .tuple ds
theorem Dp.seqE {b : Bool} {v : V} {ds : List PyData} (h : Dp K H v (dSeq b ds)) : ∃ a xs, v = .ref a ∧ SqK b K H a xs ∧ DpAll K H xs ds := by
  cases b
  · exact Dp.tupE h
  · exact Dp.lstE h
theorem Dp.seq {b : Bool} {a : Addr} {xs : List V} {ds : List PyData} (h : SqK b K H a xs) (ha : DpAll K H xs ds) : Dp K H (.ref a) (dSeq b ds) := by
  cases b
  · exact .tup h ha
  · exact .lst h ha
theorem DpAll.len : ∀ {xs : List V} {ds : List PyData}, DpAll K H xs ds → xs.length = ds.length
  | _, _, .nil => rfl
  | _, _, .cons _ h => by rw [List.length_cons, List.length_cons, DpAll.len h]
theorem DpAll.get : ∀ {xs : List V} {ds : List PyData} {i : Nat} {x : V}, DpAll K H xs ds → xs[i]? = some x → ∃ d, ds[i]? = some d ∧ Dp K H x d
  | _, _, _, _, .nil, e => by simp at e
  | _, _, 0, _, .cons h _, e => by
    obtain rfl := Option.some.inj e
    exact ⟨_, rfl, h⟩
  | _, _, i + 1, _, .cons _ h, e => by
    obtain ⟨d, e2, q⟩ := DpAll.get (i := i) h (by simpa using e)
    exact ⟨d, by simpa using e2, q⟩
theorem DpAll.got : ∀ {xs : List V} {ds : List PyData} {i : Nat} {d : PyData}, DpAll K H xs ds → ds[i]? = some d → ∃ x, xs[i]? = some x ∧ Dp K H x d
  | _, _, _, _, .nil, e => by simp at e
  | _, _, 0, _, .cons h _, e => by
    obtain rfl := Option.some.inj e
    exact ⟨_, rfl, h⟩
  | _, _, i + 1, _, .cons _ h, e => by
    obtain ⟨d, e2, q⟩ := DpAll.got (i := i) h (by simpa using e)
    exact ⟨d, by simpa using e2, q⟩
theorem DpAll.app : ∀ {xs ys : List V} {ds es : List PyData}, DpAll K H xs ds → DpAll K H ys es → DpAll K H (xs ++ ys) (ds ++ es)
  | _, _, _, _, .nil, h => h
  | _, _, _, _, .cons a h, g => .cons a (DpAll.app h g)
theorem DpAll.rev : ∀ {xs : List V} {ds : List PyData}, DpAll K H xs ds → DpAll K H xs.reverse ds.reverse
  | _, _, .nil => .nil
  | _, _, .cons a h => by
    rw [List.reverse_cons, List.reverse_cons]
    exact (DpAll.rev h).app (.cons a .nil)
theorem DpAll.take : ∀ {xs : List V} {ds : List PyData} (n : Nat), DpAll K H xs ds → DpAll K H (xs.take n) (ds.take n)
  | _, _, 0, _ => by simp; exact .nil
  | _, _, _ + 1, .nil => by simp; exact .nil
  | _, _, n + 1, .cons a h => .cons a (DpAll.take n h)
theorem DpAll.drop : ∀ {xs : List V} {ds : List PyData} (n : Nat), DpAll K H xs ds → DpAll K H (xs.drop n) (ds.drop n)
  | _, _, 0, h => h
  | _, _, _ + 1, .nil => by simp; exact .nil
  | _, _, n + 1, .cons _ h => DpAll.drop n h
theorem DpAll.erase : ∀ {xs : List V} {ds : List PyData} (n : Nat), DpAll K H xs ds → DpAll K H (xs.eraseIdx n) (ds.eraseIdx n)
  | _, _, _, .nil => by simp; exact .nil
  | _, _, 0, .cons _ h => h
  | _, _, n + 1, .cons a h => .cons a (DpAll.erase n h)
theorem DpAll.set : ∀ {xs : List V} {ds : List PyData} (n : Nat) {x : V} {d : PyData}, DpAll K H xs ds → Dp K H x d → DpAll K H (xs.set n x) (ds.set n d)
  | _, _, _, _, _, .nil, _ => by simp; exact .nil
  | _, _, 0, _, _, .cons _ h, g => .cons g h
  | _, _, n + 1, _, _, .cons a h, g => .cons a (DpAll.set n h g)
theorem DpAll.ints : ∀ (is : List Int), DpAll K H (is.map V.int) (is.map PyData.int)
  | [] => .nil
  | i :: is => .cons (.int i) (DpAll.ints is)
theorem DpAll.intsE : ∀ {xs : List V} {is : List Int}, DpAll K H xs (is.map PyData.int) → xs = is.map V.int
  | _, [], .nil => rfl
  | _, i :: is, .cons a h => by rw [a.intE, DpAll.intsE h]; rfl
theorem DpAll.bools : ∀ (is : List Bool), DpAll K H (is.map V.bl) (is.map PyData.bool)
  | [] => .nil
  | i :: is => .cons (.bl i) (DpAll.bools is)
theorem DpAll.boolsE : ∀ {xs : List V} {is : List Bool}, DpAll K H xs (is.map PyData.bool) → xs = is.map V.bl
  | _, [], .nil => rfl
  | _, i :: is, .cons a h => by rw [a.blE, DpAll.boolsE h]; rfl
/-! a tuple of integers -/
theorem Dp.tupI {a : Addr} {is : List Int} (h : SqT K H a (is.map V.int)) : Dp K H (.ref a) (.tuple (is.map .int)) := .tup h (DpAll.ints is)
theorem Dp.tupIE {v : V} {is : List Int} (h : Dp K H v (.tuple (is.map .int))) : ∃ a, v = .ref a ∧ SqT K H a (is.map V.int) := by
  obtain ⟨a, xs, e, hs, ha⟩ := h.tupE
  exact ⟨a, e, by rw [← ha.intsE]; exact hs⟩
/-! data without lists: it stands while lists change -/
mutual
def NL : PyData → Bool
  | .none | .bool _ | .int _ | .str _ => true
  | .list _ | .dict _ => false
  | .tuple xs => NLs xs
def NLs : List PyData → Bool
  | [] => true
  | x :: xs => NL x && NLs xs
end
/-- all is kept but the list at p -/
def Bu (p : Addr) (H H' : Hp) : Prop := ∀ b o, b ≠ p → H b = some o → H' b = some o
theorem Bu.of (s : Same H H') (p : Addr) : Bu p H H' := fun b o _ e => s b o e
theorem Bu.refl (p : Addr) (H : Hp) : Bu p H H := fun _ _ _ e => e
theorem Bu.trans {p : Addr} {H H1 H2 : Hp} (a : Bu p H H1) (b : Bu p H1 H2) : Bu p H H2 := fun c o n e => b c o n (a c o n e)
theorem Bu.set {p : Addr} {o : HO} : Bu p H (upd H p o) := fun b u n e => by rw [upd_ne n]; exact e
theorem Bu.new {p q : Addr} {o : HO} (hq : H q = none) : Bu p H (upd H q o) := fun b u _ e => by rw [upd_ne (ne_of_none e hq)]; exact e
theorem Bu.sqt {p : Addr} {ys : List V} (b : Bu p H H') (hp : H p = some (.lst ys)) {a : Addr} {xs : List V} (h : SqT K H a xs) : SqT K H' a xs := by
  rcases h with (h | ⟨o, h⟩) | h
  · exact .inl (.inl (b a _ (fun z => by rw [z, hp] at h; cases h) h))
  · exact .inl (.inr ⟨o, b a _ (fun z => by rw [z, hp] at h; cases h) h⟩)
  · exact .inr h
mutual
theorem Dp.bu' {p : Addr} {ys : List V} (b : Bu p H H') (hp : H p = some (.lst ys)) : ∀ (d : PyData) (v : V), NL d = true → Dp K H v d → Dp K H' v d
  | .none, _, _, h => by cases h; exact .non
  | .bool b, _, _, h => by cases h; exact .bl b
  | .int i, _, _, h => by cases h; exact .int i
  | .str x, _, _, h => by cases h; exact .str x
  | .list ds, _, n, h => by simp [NL] at n
  | .tuple ds, _, n, h => by
    cases h with
    | tup hs ha => exact .tup (b.sqt hp hs) (DpAll.bu' b hp ds _ (by simpa [NL] using n) ha)
  | .dict _, _, _, h => by cases h
theorem DpAll.bu' {p : Addr} {ys : List V} (b : Bu p H H') (hp : H p = some (.lst ys)) : ∀ (ds : List PyData) (vs : List V), NLs ds = true → DpAll K H vs ds → DpAll K H' vs ds
  | [], _, _, h => by cases h; exact .nil
  | d :: ds, _, n, h => by
    cases h with
    | cons h1 h2 =>
      have n' : NL d = true ∧ NLs ds = true := by simpa [NLs] using n
      exact .cons (Dp.bu' b hp d _ n'.1 h1) (DpAll.bu' b hp ds _ n'.2 h2)
end
theorem Dp.bu {p : Addr} {ys : List V} {d : PyData} {v : V} (h : Dp K H v d) (n : NL d = true) (b : Bu p H H') (hp : H p = some (.lst ys)) : Dp K H' v d := Dp.bu' b hp d v n h
theorem DpAll.bu {p : Addr} {ys : List V} {ds : List PyData} {vs : List V} (h : DpAll K H vs ds) (n : NLs ds = true) (b : Bu p H H') (hp : H p = some (.lst ys)) : DpAll K H' vs ds := DpAll.bu' b hp ds vs n h
theorem NLs.of : ∀ {ds : List PyData}, (∀ d ∈ ds, NL d = true) → NLs ds = true
  | [], _ => rfl
  | d :: ds, h => by
    have := NLs.of (ds := ds) fun x hx => h x (List.mem_cons_of_mem _ hx)
    simp [NLs, h d (List.mem_cons_self ..), this]
theorem NLs.mem : ∀ {ds : List PyData}, NLs ds = true → ∀ d ∈ ds, NL d = true
  | [], _, _, h => by cases h
  | d :: ds, n, x, h => by
    have n' : NL d = true ∧ NLs ds = true := by simpa [NLs] using n
    rcases List.mem_cons.mp h with rfl | h
    · exact n'.1
    · exact NLs.mem n'.2 x h
theorem NLs.take {ds : List PyData} (h : NLs ds = true) (n : Nat) : NLs (ds.take n) = true := NLs.of fun d hd => NLs.mem h d (List.mem_of_mem_take hd)
theorem NLs.ints (is : List Int) : NLs (is.map PyData.int) = true := NLs.of fun d hd => by
  obtain ⟨i, _, rfl⟩ := List.mem_map.mp hd
  rfl
theorem NL.ints (is : List Int) : NL (.tuple (is.map PyData.int)) = true := by simp [NL, NLs.ints]
/-- a comprehension whose items are data without lists, told by es; nothing old changes -/
theorem lc_nl {J : It} {n : Nat} {G : Hp → Prop} {Y : Nat → Hp → V → Hp → Prop} (w : Walk J n G Y) {g : TG} {te : TE} {vs : List Nat} {σ : L2.St} {H1 : Hp} {D : Addr} {Qd : Hp → Prop} (es : List PyData) (hn : es.length = n) (hz : n ≤ 100000) (hl : NLs es = true) (hD : H1 D = none)
    (hG : ∀ H, Same H1 H → G H)
    (hs : ∀ (i : Nat) (e : PyData) (x : V) (H H' : Hp) (Q : VK), i < n → es[i]? = some e → Same H1 H → Y i H x H' → (∀ y H4, Same H H4 → Dp K H4 y e → Q y H4) →
      g x (wipe σ vs) H' fun σ2 H2 => wipe σ2 vs = wipe σ vs ∧ te σ2 H2 Q)
    (hd : ∀ H ys, Same H1 H → H D = some (.lst ys) → DpAll K H ys es → Qd H) (hg : ∀ x σ' H' (P Q : L2.St → Hp → Prop), (∀ σ2 H2, P σ2 H2 → Q σ2 H2) → g x σ' H' P → g x σ' H' Q) :
    ∃ W : Nat → Nat → Hp → Prop, (∃ m, W 0 m (upd H1 D (.lst []))) ∧ ∀ i m H, W i m H →
      (J.stop i H ∧ Qd H) ∨ (J.go i H ∧ ∃ Nx : Hp → Prop, (∀ H', Nx H' → ∃ m', m' < m ∧ W (i + 1) m' H') ∧ ∀ x H', J.yld i H x H' → g x (wipe σ vs) H' fun σ2 H2 => wipe σ2 vs = wipe σ vs ∧ tYes σ2 H2 fun b H3 =>
        if b = true then te σ2 H3 fun y H4 => ∃ acc, H4 D = some (.lst acc) ∧ acc.length < sizeLine ∧ Nx (upd H4 D (.lst (acc ++ [y]))) else Nx H3) := by
  refine lc_it w (fun i H => Same H1 H ∧ ∃ ys, H D = some (.lst ys) ∧ DpAll K H ys (es.take i)) ⟨same_new hD, [], upd_same, by simp; exact .nil⟩ (fun i H _ h => hG H h.1) ?_ ?_
  · rintro i x H H' hi ⟨s, ys, ed, ha⟩ hy
    have he : es[i]? = some es[i] := List.getElem?_eq_getElem (by omega)
    refine hg x _ H' _ _ (fun σ2 H2 h => ⟨h.1, h.2⟩) (hs i es[i] x H H' (fun y H4 => ∃ acc, H4 D = some (.lst acc) ∧ acc.length < sizeLine ∧ Same H1 (upd H4 D (.lst (acc ++ [y]))) ∧ ∃ ys, upd H4 D (.lst (acc ++ [y])) D = some (.lst ys) ∧ DpAll K (upd H4 D (.lst (acc ++ [y]))) ys (es.take (i + 1))) hi he s hy fun y H4 s4 dy => ?_)
    have e4 := s4 _ _ ed
    have hlen := ha.len
    refine ⟨ys, e4, ?_, same_over (s.trans s4) hD, ys ++ [y], upd_same, ?_⟩
    · rw [hlen, List.length_take]; unfold sizeLine; omega
    · rw [List.take_add_one, he]
      exact ((ha.up s4).bu (NLs.take hl i) Bu.set e4).app (.cons (dy.bu (NLs.mem hl _ (List.getElem_mem _)) Bu.set e4) .nil)
  · rintro H ⟨s, ys, ed, ha⟩
    refine hd H ys s ed ?_
    rw [← hn, List.take_length] at ha
    exact ha
theorem gName_mono {k : Nat} (x : V) (σ' : L2.St) (H' : Hp) (P Q : L2.St → Hp → Prop) (h : ∀ σ2 H2, P σ2 H2 → Q σ2 H2) (p : gName k x σ' H' P) : gName k x σ' H' Q := h _ _ p
theorem gTup2_mono {n k j : Nat} (x : V) (σ' : L2.St) (H' : Hp) (P Q : L2.St → Hp → Prop) (h : ∀ σ2 H2, P σ2 H2 → Q σ2 H2) (p : gTup K n (gCons (gName k) (gCons (gName j) gNil)) x σ' H' P) : gTup K n (gCons (gName k) (gCons (gName j) gNil)) x σ' H' Q := by
  obtain ⟨a, xs, e, hs, hl, v, r, e1, v2, r2, e2, e3, q⟩ := p
  exact ⟨a, xs, e, hs, hl, v, r, e1, v2, r2, e2, e3, h _ _ q⟩
/-! == and repr of data -/
theorem shaped_of {d : PyData} (h : d.canLay0 = true) (hd : d.depth ≤ 64) : SeqAt.shaped d = true := by
  unfold SeqAt.shaped
  rw [h, decide_eq_true hd]
  rfl
end
end L2
set_option Elab.async false
namespace Pm
/-- a cut: axis (0 east, 1 north), parts -/
abbrev Cut := Nat × Nat
def wid : List Cut → Nat → Nat
  | [], _ => 1
  | (a, p) :: r, ax => (if a = ax then p else 1) * wid r ax
def size : List Cut → Nat
  | [] => 1
  | (_, p) :: r => p * size r
/-- the number along an axis of a sign, the cuts from the last one on -/
def al : List Cut → Nat → Nat → Nat
  | [], _, _ => 0
  | (a, p) :: r, s, ax => if a = ax then s % p + p * al r (s / p) ax else al r (s / p) ax
def CutOk (c : Cut) : Prop := c.1 < 2 ∧ 2 ≤ c.2 ∧ c.2 ≤ 4
def RndOk (r : List Cut) : Prop := 1 ≤ r.length ∧ r.length ≤ 5 ∧ (∀ c ∈ r, CutOk c) ∧ size r ≤ 32
instance (c : Cut) : Decidable (CutOk c) := by unfold CutOk; infer_instance
instance (r : List Cut) : Decidable (RndOk r) := by unfold RndOk; infer_instance
def tot (rs : List (List Cut)) (ax : Nat) : Nat := (rs.map fun r => wid r ax).foldr (· * ·) 1
def RdsOk (rs : List (List Cut)) : Prop := 1 ≤ rs.length ∧ rs.length ≤ 3 ∧ (∀ r ∈ rs, RndOk r) ∧ tot rs 0 = tot rs 1
instance (rs : List (List Cut)) : Decidable (RdsOk rs) := by unfold RdsOk; infer_instance
def rnd (rs : List (List Cut)) (k : Nat) : List Cut := rs.getD (k % rs.length) []
def W (rs : List (List Cut)) (ax k : Nat) : Nat := wid (rnd rs k) ax
def S (rs : List (List Cut)) (k : Nat) : Nat := size (rnd rs k)
def cnt (rs : List (List Cut)) (ax : Nat) : Nat → Nat
  | 0 => 1
  | k + 1 => cnt rs ax k * W rs ax k
def A (rs : List (List Cut)) (ax k g : Nat) : Nat := al (rnd rs k).reverse g ax
def nm (rs : List (List Cut)) (ax : Nat) (f : Nat → Nat) : Nat → Nat
  | 0 => 0
  | k + 1 => nm rs ax f k * W rs ax k + A rs ax k (f k)
/-! one round -/
theorem wid_app (r q : List Cut) (ax : Nat) : wid (r ++ q) ax = wid r ax * wid q ax := by
  induction r with
  | nil => simp [wid]
  | cons c r ih => obtain ⟨a, p⟩ := c; simp only [List.cons_append, wid, ih, Nat.mul_assoc]
theorem size_app (r q : List Cut) : size (r ++ q) = size r * size q := by
  induction r with
  | nil => simp [size]
  | cons c r ih => obtain ⟨a, p⟩ := c; simp only [List.cons_append, size, ih, Nat.mul_assoc]
theorem wid_perm {r q : List Cut} (h : r.Perm q) (ax : Nat) : wid r ax = wid q ax := by
  induction h with
  | nil => rfl
  | cons c _ ih => obtain ⟨a, p⟩ := c; simp only [wid, ih]
  | swap c d l => obtain ⟨a, p⟩ := c; obtain ⟨b, q⟩ := d; simp only [wid]; rw [← Nat.mul_assoc, ← Nat.mul_assoc, Nat.mul_comm (if b = ax then q else 1)]
  | trans _ _ i1 i2 => exact i1.trans i2
theorem size_perm {r q : List Cut} (h : r.Perm q) : size r = size q := by
  induction h with
  | nil => rfl
  | cons c _ ih => obtain ⟨a, p⟩ := c; simp only [size, ih]
  | swap c d l => obtain ⟨a, p⟩ := c; obtain ⟨b, q⟩ := d; simp only [size]; rw [← Nat.mul_assoc, ← Nat.mul_assoc, Nat.mul_comm q]
  | trans _ _ i1 i2 => exact i1.trans i2
theorem wid_rev (r : List Cut) (ax : Nat) : wid r.reverse ax = wid r ax := wid_perm (List.reverse_perm r) ax
theorem size_rev (r : List Cut) : size r.reverse = size r := size_perm (List.reverse_perm r)
theorem wid_pos {r : List Cut} (h : ∀ c ∈ r, CutOk c) (ax : Nat) : 0 < wid r ax := by
  induction r with
  | nil => simp [wid]
  | cons c r ih =>
    obtain ⟨a, p⟩ := c
    have h1 := h (a, p) (List.mem_cons_self ..)
    have h2 := ih fun c hc => h c (List.mem_cons_of_mem _ hc)
    simp only [wid]
    refine Nat.mul_pos ?_ h2
    split
    · exact Nat.lt_of_lt_of_le (by decide) h1.2.1
    · exact Nat.one_pos
theorem size_pos {r : List Cut} (h : ∀ c ∈ r, CutOk c) : 0 < size r := by
  induction r with
  | nil => simp [size]
  | cons c r ih =>
    obtain ⟨a, p⟩ := c
    have h1 := h (a, p) (List.mem_cons_self ..)
    have h2 := ih fun c hc => h c (List.mem_cons_of_mem _ hc)
    exact Nat.mul_pos (Nat.lt_of_lt_of_le (by decide) h1.2.1) h2
theorem size_wid {r : List Cut} (h : ∀ c ∈ r, CutOk c) : size r = wid r 0 * wid r 1 := by
  induction r with
  | nil => rfl
  | cons c r ih =>
    obtain ⟨a, p⟩ := c
    have h1 := h (a, p) (List.mem_cons_self ..)
    have h2 := ih fun c hc => h c (List.mem_cons_of_mem _ hc)
    have ha : a = 0 ∨ a = 1 := by have := h1.1; simp at this; omega
    simp only [size, wid, h2]
    rcases ha with rfl | rfl
    · simp [Nat.mul_assoc]
    · simp only [Nat.one_ne_zero, if_false, if_true, Nat.one_mul]
      rw [Nat.mul_left_comm]
theorem al_lt {r : List Cut} (h : ∀ c ∈ r, CutOk c) (s ax : Nat) : al r s ax < wid r ax := by
  induction r generalizing s with
  | nil => simp [al, wid]
  | cons c r ih =>
    obtain ⟨a, p⟩ := c
    have h1 := h (a, p) (List.mem_cons_self ..)
    have h2 := ih (fun c hc => h c (List.mem_cons_of_mem _ hc)) (s / p)
    have hp : 0 < p := Nat.lt_of_lt_of_le (by decide) h1.2.1
    simp only [al, wid]
    split
    · have hm := Nat.mod_lt s hp
      calc s % p + p * al r (s / p) ax < p + p * al r (s / p) ax := by omega
        _ = p * (al r (s / p) ax + 1) := by rw [Nat.mul_add, Nat.mul_one, Nat.add_comm]
        _ ≤ p * wid r ax := Nat.mul_le_mul_left p h2
    · rw [Nat.one_mul]; exact h2
theorem al_inj {r : List Cut} (h : ∀ c ∈ r, CutOk c) {s t : Nat} (hs : s < size r) (ht : t < size r) (h0 : al r s 0 = al r t 0) (h1 : al r s 1 = al r t 1) : s = t := by
  induction r generalizing s t with
  | nil => simp [size] at hs ht; omega
  | cons c r ih =>
    obtain ⟨a, p⟩ := c
    have hc := h (a, p) (List.mem_cons_self ..)
    have hp : 0 < p := Nat.lt_of_lt_of_le (by decide) hc.2.1
    have ha : a = 0 ∨ a = 1 := by have := hc.1; simp at this; omega
    have hr : ∀ c ∈ r, CutOk c := fun c hc => h c (List.mem_cons_of_mem _ hc)
    have ds : s / p < size r := Nat.div_lt_of_lt_mul (by simpa [size] using hs)
    have dt : t / p < size r := Nat.div_lt_of_lt_mul (by simpa [size] using ht)
    have split2 : ∀ {x y u v : Nat}, x < p → y < p → x + p * u = y + p * v → x = y ∧ u = v := by
      intro x y u v hx hy e
      have e1 : (x + p * u) % p = (y + p * v) % p := by rw [e]
      rw [Nat.add_mul_mod_self_left, Nat.add_mul_mod_self_left, Nat.mod_eq_of_lt hx, Nat.mod_eq_of_lt hy] at e1
      subst e1
      have e2 : p * u = p * v := by omega
      exact ⟨rfl, Nat.eq_of_mul_eq_mul_left hp e2⟩
    have key : s % p = t % p ∧ s / p = t / p := by
      simp only [al] at h0 h1
      rcases ha with rfl | rfl
      · simp only [if_true, Nat.zero_ne_one, if_false] at h0 h1
        obtain ⟨e1, e2⟩ := split2 (Nat.mod_lt s hp) (Nat.mod_lt t hp) h0
        exact ⟨e1, ih hr ds dt e2 h1⟩
      · simp only [if_true, Nat.one_ne_zero, if_false] at h0 h1
        obtain ⟨e1, e2⟩ := split2 (Nat.mod_lt s hp) (Nat.mod_lt t hp) h1
        exact ⟨e1, ih hr ds dt h0 e2⟩
    rw [← Nat.mod_add_div s p, ← Nat.mod_add_div t p, key.1, key.2]
/-! rounds -/
theorem rnd_mem {rs : List (List Cut)} (h : 1 ≤ rs.length) (k : Nat) : rnd rs k ∈ rs := by
  have hk : k % rs.length < rs.length := Nat.mod_lt k h
  unfold rnd
  rw [List.getD_eq_getElem?_getD, List.getElem?_eq_getElem hk]
  exact List.getElem_mem hk
theorem rnd_get {rs : List (List Cut)} (h : 1 ≤ rs.length) (k : Nat) : rs[k % rs.length]? = some (rnd rs k) := by
  have hk : k % rs.length < rs.length := Nat.mod_lt k h
  unfold rnd
  rw [List.getD_eq_getElem?_getD, List.getElem?_eq_getElem hk]
  rfl
theorem RdsOk.rnd {rs : List (List Cut)} (h : RdsOk rs) (k : Nat) : RndOk (rnd rs k) := h.2.2.1 _ (rnd_mem h.1 k)
theorem RdsOk.cut {rs : List (List Cut)} (h : RdsOk rs) (k : Nat) : ∀ c ∈ Pm.rnd rs k, CutOk c := (h.rnd k).2.2.1
theorem RdsOk.W {rs : List (List Cut)} (h : RdsOk rs) (ax k : Nat) : 0 < W rs ax k := wid_pos (h.cut k) ax
theorem RdsOk.S {rs : List (List Cut)} (h : RdsOk rs) (k : Nat) : 0 < S rs k := size_pos (h.cut k)
theorem RdsOk.S32 {rs : List (List Cut)} (h : RdsOk rs) (k : Nat) : Pm.S rs k ≤ 32 := (h.rnd k).2.2.2
theorem RdsOk.SW {rs : List (List Cut)} (h : RdsOk rs) (k : Nat) : Pm.S rs k = Pm.W rs 0 k * Pm.W rs 1 k := size_wid (h.cut k)
theorem RdsOk.W32 {rs : List (List Cut)} (h : RdsOk rs) (k : Nat) : Pm.W rs 0 k ≤ 32 ∧ Pm.W rs 1 k ≤ 32 := by
  have e := h.SW k
  have l := h.S32 k
  have p0 := h.W 0 k
  have p1 := h.W 1 k
  constructor
  · have := Nat.le_mul_of_pos_right (Pm.W rs 0 k) p1; omega
  · have := Nat.le_mul_of_pos_left (Pm.W rs 1 k) p0; omega
theorem RdsOk.A_lt {rs : List (List Cut)} (h : RdsOk rs) (ax k g : Nat) : A rs ax k g < Pm.W rs ax k := by
  have := al_lt (r := (Pm.rnd rs k).reverse) (fun c hc => h.cut k c (List.mem_reverse.mp hc)) g ax
  rw [wid_rev] at this
  exact this
theorem RdsOk.cnt_pos {rs : List (List Cut)} (h : RdsOk rs) (ax k : Nat) : 0 < cnt rs ax k := by
  induction k with
  | zero => exact Nat.one_pos
  | succ k ih => exact Nat.mul_pos ih (h.W ax k)
theorem RdsOk.nm_lt {rs : List (List Cut)} (h : RdsOk rs) (ax : Nat) (f : Nat → Nat) (k : Nat) : nm rs ax f k < cnt rs ax k := by
  induction k with
  | zero => exact Nat.one_pos
  | succ k ih =>
    have a := h.A_lt ax k (f k)
    calc nm rs ax f k * Pm.W rs ax k + A rs ax k (f k) < nm rs ax f k * Pm.W rs ax k + Pm.W rs ax k := by omega
      _ = (nm rs ax f k + 1) * Pm.W rs ax k := by rw [Nat.add_mul, Nat.one_mul]
      _ ≤ cnt rs ax k * Pm.W rs ax k := Nat.mul_le_mul_right _ ih
/-- the number of a beginning -/
theorem RdsOk.begin {rs : List (List Cut)} (h : RdsOk rs) (ax : Nat) (f : Nat → Nat) (m j : Nat) : ∃ R rest, 0 < R ∧ rest < R ∧ cnt rs ax (m + j) = cnt rs ax m * R ∧ nm rs ax f (m + j) = nm rs ax f m * R + rest := by
  induction j with
  | zero => exact ⟨1, 0, Nat.one_pos, Nat.one_pos, by simp, by simp⟩
  | succ j ih =>
    obtain ⟨R, rest, hR, hr, e1, e2⟩ := ih
    have w := h.W ax (m + j)
    have a := h.A_lt ax (m + j) (f (m + j))
    refine ⟨R * Pm.W rs ax (m + j), rest * Pm.W rs ax (m + j) + A rs ax (m + j) (f (m + j)), Nat.mul_pos hR w, ?_, ?_, ?_⟩
    · calc rest * Pm.W rs ax (m + j) + A rs ax (m + j) (f (m + j)) < rest * Pm.W rs ax (m + j) + Pm.W rs ax (m + j) := by omega
        _ = (rest + 1) * Pm.W rs ax (m + j) := by rw [Nat.add_mul, Nat.one_mul]
        _ ≤ R * Pm.W rs ax (m + j) := Nat.mul_le_mul_right _ hr
    · show cnt rs ax (m + j) * Pm.W rs ax (m + j) = _
      rw [e1, Nat.mul_assoc]
    · show nm rs ax f (m + j) * Pm.W rs ax (m + j) + A rs ax (m + j) (f (m + j)) = _
      rw [e2, Nat.add_mul, Nat.mul_assoc, Nat.add_assoc]
theorem RdsOk.div {rs : List (List Cut)} (h : RdsOk rs) (ax : Nat) (f : Nat → Nat) {m n : Nat} (hmn : m ≤ n) : nm rs ax f n / (cnt rs ax n / cnt rs ax m) = nm rs ax f m := by
  obtain ⟨j, rfl⟩ := Nat.le.dest hmn
  obtain ⟨R, rest, hR, hr, e1, e2⟩ := h.begin ax f m j
  rw [e1, Nat.mul_div_cancel_left _ (h.cnt_pos ax m), e2, Nat.mul_comm, Nat.mul_add_div hR, Nat.div_eq_of_lt hr, Nat.add_zero]
theorem RdsOk.inj {rs : List (List Cut)} (h : RdsOk rs) {f g : Nat → Nat} {n : Nat} (hf : ∀ k, k < n → f k < Pm.S rs k) (hg : ∀ k, k < n → g k < Pm.S rs k) (h0 : nm rs 0 f n = nm rs 0 g n) (h1 : nm rs 1 f n = nm rs 1 g n) : ∀ k, k < n → f k = g k := by
  induction n with
  | zero => intro k hk; omega
  | succ n ih =>
    have sp : ∀ ax, nm rs ax f (n + 1) = nm rs ax g (n + 1) → nm rs ax f n = nm rs ax g n ∧ A rs ax n (f n) = A rs ax n (g n) := by
      intro ax e
      have w := h.W ax n
      have a1 := h.A_lt ax n (f n)
      have a2 := h.A_lt ax n (g n)
      have e' : nm rs ax f n * Pm.W rs ax n + A rs ax n (f n) = nm rs ax g n * Pm.W rs ax n + A rs ax n (g n) := e
      have q1 : (nm rs ax f n * Pm.W rs ax n + A rs ax n (f n)) / Pm.W rs ax n = nm rs ax f n := by
        rw [Nat.mul_comm, Nat.mul_add_div w, Nat.div_eq_of_lt a1, Nat.add_zero]
      have q2 : (nm rs ax g n * Pm.W rs ax n + A rs ax n (g n)) / Pm.W rs ax n = nm rs ax g n := by
        rw [Nat.mul_comm, Nat.mul_add_div w, Nat.div_eq_of_lt a2, Nat.add_zero]
      have q : nm rs ax f n = nm rs ax g n := by rw [← q1, ← q2, e']
      rw [q] at e'
      exact ⟨q, by omega⟩
    obtain ⟨n0, a0⟩ := sp 0 h0
    obtain ⟨n1, a1⟩ := sp 1 h1
    have rest := ih (fun k hk => hf k (by omega)) (fun k hk => hg k (by omega)) n0 n1
    intro k hk
    rcases Nat.lt_or_ge k n with hk' | hk'
    · exact rest k hk'
    · have : k = n := by omega
      subst this
      refine al_inj (r := (Pm.rnd rs k).reverse) (fun c hc => h.cut k c (List.mem_reverse.mp hc)) ?_ ?_ a0 a1
      · rw [size_rev]; exact hf k hk
      · rw [size_rev]; exact hg k hk
theorem nm_congr {rs : List (List Cut)} {ax : Nat} {f g : Nat → Nat} {n : Nat} (h : ∀ k, k < n → f k = g k) : nm rs ax f n = nm rs ax g n := by
  induction n with
  | zero => rfl
  | succ n ih => simp only [nm]; rw [ih fun k hk => h k (by omega), h n (by omega)]
/-! all rounds once -/
theorem tot_perm {rs qs : List (List Cut)} (h : rs.Perm qs) (ax : Nat) : tot rs ax = tot qs ax := by
  unfold tot
  induction h with
  | nil => rfl
  | cons c _ ih => simp only [List.map_cons, List.foldr_cons, ih]
  | swap c d l => simp only [List.map_cons, List.foldr_cons]; rw [Nat.mul_left_comm]
  | trans _ _ i1 i2 => exact i1.trans i2
theorem cnt_take {rs : List (List Cut)} (ax : Nat) : ∀ k, k ≤ rs.length → cnt rs ax k = tot (rs.take k) ax := by
  intro k
  induction k with
  | zero => intro _; simp [cnt, tot]
  | succ k ih =>
    intro hk
    have e := ih (by omega)
    have hlt : k < rs.length := by omega
    have er : rnd rs k = rs[k] := by
      unfold rnd
      rw [Nat.mod_eq_of_lt hlt, List.getD_eq_getElem?_getD, List.getElem?_eq_getElem hlt]
      rfl
    have app : ∀ (xs : List (List Cut)) (y : List Cut), tot (xs ++ [y]) ax = tot xs ax * wid y ax := by
      intro xs y
      induction xs with
      | nil => simp [tot]
      | cons x xs ih => simp only [tot, List.cons_append, List.map_cons, List.foldr_cons] at *; rw [ih, Nat.mul_assoc]
    show cnt rs ax k * W rs ax k = _
    rw [e, List.take_succ_eq_append_getElem hlt, app]
    unfold W
    rw [er]
theorem cnt_all (rs : List (List Cut)) (ax : Nat) : cnt rs ax rs.length = tot rs ax := by
  rw [cnt_take ax _ (Nat.le_refl _), List.take_length]
theorem RdsOk.bal {rs : List (List Cut)} (h : RdsOk rs) : cnt rs 0 rs.length = cnt rs 1 rs.length := by
  rw [cnt_all, cnt_all]; exact h.2.2.2
theorem RdsOk.perm {rs qs : List (List Cut)} (h : RdsOk rs) (p : rs.Perm qs) : RdsOk qs :=
  ⟨p.length_eq ▸ h.1, p.length_eq ▸ h.2.1, fun r hr => h.2.2.1 r (p.mem_iff.mpr hr), by rw [← tot_perm p, ← tot_perm p]; exact h.2.2.2⟩
theorem RndOk.perm {r q : List Cut} (h : RndOk r) (p : r.Perm q) : RndOk q :=
  ⟨p.length_eq ▸ h.1, p.length_eq ▸ h.2.1, fun c hc => h.2.2.1 c (p.mem_iff.mpr hc), by rw [← size_perm p]; exact h.2.2.2⟩
end Pm
set_option Elab.async false
set_option maxRecDepth 100000
set_option maxHeartbeats 4000000
namespace Mv
open PySem PySem.Spec PyProof.Rows L2
theorem tyL {K : PySem.W.Frag} {H : Hp} {a : Addr} {xs : List V} (h : SqL K H a xs) : TyX K H (.ref a) (.type "list") := by
  rcases h with (h | ⟨o, h⟩) | ⟨o, its, n, hk, hc, _⟩
  · exact .base (.lst h)
  · exact .base (.frz h)
  · exact .kList hk hc
theorem tyT {K : PySem.W.Frag} {H : Hp} {a : Addr} {xs : List V} (h : SqT K H a xs) : TyX K H (.ref a) (.type "tuple") := by
  rcases h with (h | ⟨o, h⟩) | ⟨o, its, n, hk, hc, _⟩
  · exact .base (.tup h)
  · exact .fTuple h
  · exact .kTuple hk hc
theorem sqK_or {b : Bool} {K : PySem.W.Frag} {H : Hp} {a : Addr} {xs : List V} (h : SqK b K H a xs) : SqL K H a xs ∨ SqT K H a xs := by
  cases b
  · exact .inr h
  · exact .inl h
theorem tyK {b : Bool} {K : PySem.W.Frag} {H : Hp} {a : Addr} {xs : List V} (h : SqK b K H a xs) : TyX K H (.ref a) (.type (if b then "list" else "tuple")) := by
  cases b
  · exact tyT h
  · exact tyL h
/-- the built-ins are still their own -/
structure Blt (mg : Str → Option Value) : Prop where
  len : mg "len" = none
  abs : mg "abs" = none
  max : mg "max" = none
  min : mg "min" = none
  int : mg "int" = none
  bool : mg "bool" = none
  str : mg "str" = none
  repr : mg "repr" = none
  all : mg "all" = none
  any : mg "any" = none
  range : mg "range" = none
  divmod : mg "divmod" = none
  isinstance : mg "isinstance" = none
  list : mg "list" = none
  tuple : mg "tuple" = none
  dict : mg "dict" = none
  enumerate : mg "enumerate" = none
  zip : mg "zip" = none
  sorted : mg "sorted" = none
  sum : mg "sum" = none
  type : mg "type" = none
/-- a class of the text whose instances are plain -/
structure ClsI (K : PySem.W.Frag) (C : Addr) : Prop where
  cl : Cls K C
  ha : PySem.W.findIn K (.ref C) "__class__" = some (some (.builtin "object.__class__"))
  hn : PySem.W.specialIn K (.builtin "object.__class__") "__get__" = some (some (.builtin "getset_descriptor.__get__"))
  htk : PySem.W.takesIn K (.builtin "object.__class__") = some true
  hm : PySem.W.mroIn K C (.type "object") = some true
  me : PySem.W.kitOne K (.ref C) (.ref C) = some true
  ne : PySem.W.findIn K (.ref C) "__ne__" = some (some (.builtin "object.__ne__"))
theorem ClsI.ty {K : PySem.W.Frag} {C : Addr} (R : ClsI K C) {H : Hp} {a dx : Addr} {fs : List (Str × V)} (e : H a = some (.ins C dx fs)) : TyX K H (.ref a) (.ref C) := .base (.ins e R.cl R.ha R.hn R.htk R.hm)
theorem ClsI.nf {K : PySem.W.Frag} {C : Addr} (_ : ClsI K C) : PySem.W.notFirst K C (.ref C) = true := by unfold PySem.W.notFirst; simp
/-- attributes of a class itself -/
structure ClsR (K : PySem.W.Frag) (C : Addr) : Prop where
  ex : ∃ mc, ClX.CRead K C mc
/-- the constant C.f -/
structure CCon (K : PySem.W.Frag) (C : Addr) (f : Str) (v : V) : Prop where
  ex : ∃ mc u, ClX.CRead K C mc ∧ ClX.CVal K C mc f v u
/-- x.f, x the name of the class at C -/
theorem pe_ccon {X : Cx} {C : Addr} {x f : Str} {v : V} {p pos : Pos} (c : CCon X.K C f v) (hg : Gl X x) (hm : X.mg x = some (.ref C)) (hd : (x == ("__debug__" : Str)) = false := by decide)
    (hb : attributeBase (.Name x p) f X.env (eval (.Name x p) X.env) = eval (.Name x p) X.env := by rfl) : PE X (.Attribute (.Name x p) f pos) (tC v) := by
  obtain ⟨mc, u, r, k⟩ := c.ex
  exact ⟨fun pins s σ H Q I h => (ClX.pe_cval (pe_glob (v := .ref C) hg hm rfl hd) hb).run pins s σ H Q I ⟨C, mc, v, u, rfl, r, k, h⟩⟩
end Mv
namespace Mv
open PySem PySem.Spec PyProof.Rows L2
section
variable {X : Cx} {x : Str} {pos : Pos}
theorem pe_globS {z : Str} (h : ∃ t, X.mg x = some (.str z t)) (hg : Gl X x) (hd : (x == ("__debug__" : Str)) = false := by decide) : PE X (.Name x pos) (tC (.str z)) := by
  obtain ⟨t, h⟩ := h
  exact pe_glob hg h ⟨_, rfl⟩ hd
theorem pe_globI {i : Int} (h : ∃ t, X.mg x = some (.int i t)) (hg : Gl X x) (hd : (x == ("__debug__" : Str)) = false := by decide) : PE X (.Name x pos) (tC (.int i)) := by
  obtain ⟨t, h⟩ := h
  exact pe_glob hg h ⟨_, rfl⟩ hd
end
/-- no more arguments -/
theorem tnil {σ : L2.St} {H : Hp} {P : List V → Hp → Prop} (h : P [] H) : tNil σ H P := h
/-- a value that is no integer -/
def NotInt (K : PySem.W.Frag) (H : Hp) (v : V) : Prop := ∃ (t : Value) (b c : Bool), TyX K H v t ∧ PySem.W.kitOne K t (.type "int") = some b ∧ PySem.W.kitOne K t (.type "bool") = some c ∧ (b && !c) = false
/-- what stands in the module of plans -/
structure PlG (K : PySem.W.Frag) (mg : Str → Option Value) (C AX : Addr) : Prop where
  I : ClsI K C
  mgC : mg "Plan" = some (.ref C)
  nR : NoAttr K C "own_rounds"
  nP : NoAttr K C "own_parts"
  nG : NoAttr K C "own_growth"
  east : ∃ t, mg "EAST" = some (.str "east" t)
  north : ∃ t, mg "NORTH" = some (.str "north" t)
  axes : mg "AXES" = some (.ref AX)
  axt : ∀ H : Hp, SqT K H AX [.str "east", .str "north"]
  axk : ∃ o, K.lookup AX = some o ∧ o.cls = .type "tuple" ∧ o.dict = none
  few : ∃ t, mg "FEWEST_PARTS" = some (.int 2 t)
  most : ∃ t, mg "MOST_PARTS" = some (.int 4 t)
  fine : ∃ t, mg "MOST_FINE" = some (.int 1000 t)
  mr : CCon K C "MOST_ROUNDS" (.int 3)
  mc : CCon K C "MOST_CUTS" (.int 5)
  ms : CCon K C "MOST_SIGNS" (.int 32)
/-! the data of plans -/
def axn (a : Nat) : Str := if a = 0 then "east" else "north"
/-- a cut of the program; a cut of a law -/
def pCut (c : Pm.Cut) : PyData := .tuple [.str (axn c.1), .int c.2]
def lCut (c : Pm.Cut) : PyData := .tuple [.int c.1, .int c.2]
theorem axn_eq {a b : Nat} (ha : a < 2) (hb : b < 2) : decide (V.str (axn a) = V.str (axn b)) = decide (a = b) := by
  have h1 : a = 0 ∨ a = 1 := by omega
  have h2 : b = 0 ∨ b = 1 := by omega
  rcases h1 with rfl | rfl <;> rcases h2 with rfl | rfl <;> decide
end Mv
namespace Mv
open PySem PySem.Spec PyProof.Rows L2
section
variable {X : Cx} {K : PySem.W.Frag}
def rListOf (K : PySem.W.Frag) : List V → Hp → VK → Prop := fun xs H Q => ∃ p ys, xs = [.ref p] ∧ (SqL K H p ys ∨ SqT K H p ys) ∧ ∀ l, H l = none → Q (.ref l) (upd H l (.lst ys))
theorem call_list_of' (e : X.K = K := by (conv => lhs; whnf)) : CallR X (.type "list") (rListOf K) := by
  subst e
  exact call_list_of
def rTupOf (K : PySem.W.Frag) : List V → Hp → VK → Prop := fun xs H Q => ∃ p ys, xs = [.ref p] ∧ ((SqL K H p ys ∧ ∀ l, H l = none → Q (.ref l) (upd H l (.tup ys))) ∨ (SqT K H p ys ∧ Q (.ref p) H))
theorem call_tuple_of' (e : X.K = K := by (conv => lhs; whnf)) : CallR X (.type "tuple") (rTupOf K) := by
  subst e
  exact call_tuple_of
def rLenSeq (K : PySem.W.Frag) : List V → Hp → VK → Prop := fun xs H Q => ∃ p ys, xs = [.ref p] ∧ (SqL K H p ys ∨ SqT K H p ys) ∧ Q (.int ys.length) H
theorem call_len_seq' (e : X.K = K := by (conv => lhs; whnf)) : CallR X (.builtin "len") (rLenSeq K) := by
  subst e
  exact call_len_seq
theorem ix_list' (e : X.K = K := by (conv => lhs; whnf)) : IxR X (rIxL K) := by
  subst e
  exact ix_list
theorem ix_tup' (e : X.K = K := by (conv => lhs; whnf)) : IxR X (rIxT K) := by
  subst e
  exact ix_tup
theorem op_eqD' (hu : X.A.units + 64 < cLine) (e : X.K = K := by (conv => lhs; whnf)) : OpR X (compareOp .Eq) (rEqD K) := by
  subst e
  exact op_eqD hu
theorem op_neD' (hu : X.A.units + 64 < cLine) (e : X.K = K := by (conv => lhs; whnf)) : OpR X (compareOp .NotEq) (rNeD K) := by
  subst e
  exact op_neD hu
end
end Mv
namespace Mv
open PySem PySem.Spec PyProof.Rows L2
theorem pg_tup' {X : Cx} {K : PySem.W.Frag} {es : List Expr} {k : Nat} {t : TGs} {pos : Pos} (n : Nat) (h : PGs X es t) (e : X.K = K := by (conv => lhs; whnf)) (hc : X.calm = true := by rfl)
    (hn : (assignEach es X.env).length = n := by rfl) (hst : (assignEach es X.env).findIdx? (·.1) = none := by rfl) : PG X (.Tuple es k pos) (gTup K n t) := by
  subst e
  exact pg_tup hc h hn hst
theorem sl_tupA' {X : Cx} {K : PySem.W.Frag} (e : X.K = K := by (conv => lhs; whnf)) : SlR X (rSlA K) := by
  subst e
  exact sl_tupA
end Mv
namespace Mv
open PySem PySem.Spec PyProof.Rows L2
section
variable {X : Cx} {K : PySem.W.Frag} {tg l : Expr} {tl : TE}
theorem pi_list' (hl : PE X l tl) (e : X.K = K := by (conv => lhs; whnf)) : PI X tg l (iList K tl) := by
  subst e
  exact pi_list hl
theorem pi_tup' (hl : PE X l tl) (e : X.K = K := by (conv => lhs; whnf)) : PI X tg l (iTup K tl) := by
  subst e
  exact pi_tup hl
theorem pi_seq' (hl : PE X l tl) (e : X.K = K := by (conv => lhs; whnf)) : PI X tg l (iSeq K tl) := by
  subst e
  exact pi_seq hl
end
end Mv
set_option Elab.async false
set_option maxRecDepth 100000
set_option maxHeartbeats 4000000
namespace T
open PySem L2 Mv
def top (i : Nat) : Stmt := PySem.Challenge.pw_movecells_k14_plans_told.main.body.getD i (.Pass ⟨0, 0, 0, 0⟩)
abbrev s_isint : Stmt := top 12
theorem sc_isint : FnScope ["value"] ["value"] (defScope s_isint) := ⟨rfl, rfl, rfl, by decide +kernel, rfl, by decide +kernel, by decide +kernel⟩
abbrev s_count : Stmt := top 13
theorem sc_count : FnScope ["value"] ["value"] (defScope s_count) := ⟨rfl, rfl, rfl, by decide +kernel, rfl, by decide +kernel, by decide +kernel⟩
abbrev s_islist : Stmt := top 14
theorem sc_islist : FnScope ["value"] ["value"] (defScope s_islist) := ⟨rfl, rfl, rfl, by decide +kernel, rfl, by decide +kernel, by decide +kernel⟩
abbrev s_isaxis : Stmt := top 22
theorem sc_isaxis : FnScope ["value"] ["value"] (defScope s_isaxis) := ⟨rfl, rfl, rfl, by decide +kernel, rfl, by decide +kernel, by decide +kernel⟩
abbrev s_areparts : Stmt := top 24
theorem sc_areparts : FnScope ["value"] ["value"] (defScope s_areparts) := ⟨rfl, rfl, rfl, by decide +kernel, rfl, by decide +kernel, by decide +kernel⟩
abbrev s_iscut : Stmt := top 25
theorem sc_iscut : FnScope ["value"] ["value"] (defScope s_iscut) := ⟨rfl, rfl, rfl, by decide +kernel, rfl, by decide +kernel, by decide +kernel⟩
abbrev s_isround : Stmt := top 26
theorem sc_isround : FnScope ["value", "cut"] ["value"] (defScope s_isround) := ⟨rfl, rfl, rfl, by decide +kernel, rfl, by decide +kernel, by decide +kernel⟩
abbrev s_along1 : Stmt := top 27
theorem sc_along1 : FnScope ["cuts", "axis", "found", "own_axis", "parts"] ["cuts", "axis"] (defScope s_along1) := ⟨rfl, rfl, rfl, by decide +kernel, rfl, by decide +kernel, by decide +kernel⟩
abbrev s_wantrounds : Stmt := top 28
theorem sc_wantrounds : FnScope ["rounds", "position", "cuts"] ["rounds"] (defScope s_wantrounds) := ⟨rfl, rfl, rfl, by decide +kernel, rfl, by decide +kernel, by decide +kernel⟩
section
variable {P : Program} {w : World} {K : PySem.W.Frag} {mg : Str → Option Value} {base : Heap} {C AX : Addr}
/-! is_integer -/
def sp_isint (K : PySem.W.Frag) : Sp := fun vs H Q _ => ∃ (v : V) (t : Value) (b c : Bool), vs = [v] ∧ TyX K H v t ∧ PySem.W.kitOne K t (.type "int") = some b ∧ PySem.W.kitOne K t (.type "bool") = some c ∧ Q (.bl (b && !c)) H
theorem c_isint {K : PySem.W.Frag} {v : V} {t : Value} {b c : Bool} {H : Hp} {Q : VK} {E : XK} (h0 : TyX K H v t) (h1 : PySem.W.kitOne K t (.type "int") = some b) (h2 : PySem.W.kitOne K t (.type "bool") = some c) (q : Q (.bl (b && !c)) H) : sp_isint K [v] H Q E := ⟨_, _, _, _, rfl, h0, h1, h2, q⟩
theorem ok_isint {f : Addr} {fd : FuncData} (F : Df K "is_integer" "is_integer" s_isint [] f fd) (B : Blt mg) : FnOk P w K mg base CX0 1 f fd ["value"] (sp_isint K) := by
  refine dfOk F sc_isint (fun vs H Q E h => ?_) (fun cdv A outer s H vs Q E hr h => ?_)
  · obtain ⟨v, t, b, c, rfl, _⟩ := h
    rfl
  · obtain ⟨v, t, b, c, rfl, ty, h1, h2, q⟩ := h
    refine ⟨_, (pss_one (ps_ret (pe_and (pe_callB call_isi' (by rfl) B.isinstance bt_isinstance (pa_cons (pv 0) (pa_cons (pe_bltn (v := .ty "int") (by rfl) B.int bt_int rfl) pa_nil))) (pe_one (pe_not (pe_callB call_isi' (by rfl) B.isinstance bt_isinstance (pa_cons (pv 0) (pa_cons (pe_bltn (v := .ty "bool") (by rfl) B.bool bt_bool rfl) pa_nil)))))))), ?_⟩
    refine ⟨_, rfl, _, _, t, _, b, rfl, .ty _, ty, h1, b, rfl, ?_⟩
    cases b with
    | false => exact iteF q
    | true =>
      refine iteT ?_
      refine ⟨_, rfl, _, _, t, _, c, rfl, .ty _, ty, h2, c, rfl, ?_⟩
      exact q
theorem isint_int {H : Hp} {i : Int} {Q : VK} (q : Q (.bl true) H) : sp_isint K [.int i] H Q E0 := ⟨_, .type "int", true, false, rfl, .base (.int i), kit_ty (by decide +kernel), kit_ty (by decide +kernel), q⟩
theorem isint_not {H : Hp} {v : V} {Q : VK} (h : NotInt K H v) (q : Q (.bl false) H) : sp_isint K [v] H Q E0 := by
  obtain ⟨t, b, c, ty, h1, h2, h3⟩ := h
  exact ⟨v, t, b, c, rfl, ty, h1, h2, h3 ▸ q⟩
/-! is_count -/
def sp_count (K : PySem.W.Frag) : Sp := fun vs H Q _ => ∃ (v : V), vs = [v] ∧ ((∃ i, v = .int i ∧ Q (.bl (decide (0 ≤ i))) H) ∨ (NotInt K H v ∧ Q (.bl false) H))
theorem c_count {K : PySem.W.Frag} {v : V} {H : Hp} {Q : VK} {E : XK}  (q : ((∃ i, v = .int i ∧ Q (.bl (decide (0 ≤ i))) H) ∨ (NotInt K H v ∧ Q (.bl false) H))) : sp_count K [v] H Q E := ⟨_, rfl, q⟩
theorem ok_count {f : Addr} {fd : FuncData} (F : Df K "is_count" "is_count" s_count [] f fd) (cI : Ca P w K mg base 1 "is_integer" (sp_isint K) []) : FnOk P w K mg base CX0 2 f fd ["value"] (sp_count K) := by
  refine dfOk F sc_count (fun vs H Q E h => ?_) (fun cdv A outer s H vs Q E hr h => ?_)
  · obtain ⟨v, rfl, _⟩ := h
    rfl
  · obtain ⟨v, rfl, h⟩ := h
    refine ⟨_, (pss_one (ps_ret (pe_and (pe_ca cI hr (by decide) (by rfl) (pa_cons (pv 0) pa_nil)) (pe_one (pe_cmpR op_ge (pv 0) pe_int (nomark _)))))), ?_⟩
    rcases h with ⟨i, rfl, q⟩ | ⟨n, q⟩
    · exact ⟨_, rfl, tnil (isint_int ⟨_, rfl, iteT ⟨_, rfl, _, _, rfl, rfl, q⟩⟩)⟩
    · exact ⟨_, rfl, tnil (isint_not n ⟨_, rfl, iteF q⟩)⟩
theorem count_int {H : Hp} {i : Int} {Q : VK} (h : 0 ≤ i) (q : Q (.bl true) H) : sp_count K [.int i] H Q E0 := ⟨_, rfl, .inl ⟨i, rfl, by rw [decide_eq_true h]; exact q⟩⟩
/-! is_list -/
def sp_islist (K : PySem.W.Frag) : Sp := fun vs H Q _ => ∃ (v : V) (t : Value) (b c : Bool), vs = [v] ∧ TyX K H v t ∧ PySem.W.kitOne K t (.type "list") = some b ∧ PySem.W.kitOne K t (.type "tuple") = some c ∧ ∀ H', Same H H' → Q (.bl (b || c)) H'
theorem c_islist {K : PySem.W.Frag} {v : V} {t : Value} {b c : Bool} {H : Hp} {Q : VK} {E : XK} (h0 : TyX K H v t) (h1 : PySem.W.kitOne K t (.type "list") = some b) (h2 : PySem.W.kitOne K t (.type "tuple") = some c) (q : ∀ H', Same H H' → Q (.bl (b || c)) H') : sp_islist K [v] H Q E := ⟨_, _, _, _, rfl, h0, h1, h2, q⟩
theorem TyX.same {H H' : Hp} {v : V} {t : Value} (h : TyX K H v t) (s : Same H H') : TyX K H' v t := by
  cases h with
  | base h =>
    cases h with
    | non => exact .base .non
    | bl x => exact .base (.bl x)
    | int x => exact .base (.int x)
    | str x => exact .base (.str x)
    | flt x => exact .base (.flt x)
    | lst e => exact .base (.lst (s _ _ e))
    | frz e => exact .base (.frz (s _ _ e))
    | tup e => exact .base (.tup (s _ _ e))
    | dK e => exact .base (.dK (s _ _ e))
    | dT e => exact .base (.dT (s _ _ e))
    | ins e cl ha hn htk hm => exact .base (.ins (s _ _ e) cl ha hn htk hm)
  | byt b => exact .byt b
  | set e => exact .set (s _ _ e)
  | kList e c => exact .kList e c
  | kTuple e c => exact .kTuple e c
  | kDict e c => exact .kDict e c
  | fTuple e => exact .fTuple (s _ _ e)
  | fDict e => exact .fDict (s _ _ e)
theorem ok_islist {f : Addr} {fd : FuncData} (F : Df K "is_list" "is_list" s_islist [] f fd) (B : Blt mg) : FnOk P w K mg base CX0 1 f fd ["value"] (sp_islist K) := by
  refine dfOk F sc_islist (fun vs H Q E h => ?_) (fun cdv A outer s H vs Q E hr h => ?_)
  · obtain ⟨v, t, b, c, rfl, _⟩ := h
    rfl
  · obtain ⟨v, t, b, c, rfl, ty, h1, h2, q⟩ := h
    refine ⟨_, (pss_one (ps_ret (pe_callB call_isiT (by rfl) B.isinstance bt_isinstance (pa_cons (pv 0) (pa_cons (pe_tup (pa_cons (pe_bltn (v := .ty "list") (by rfl) B.list bt_list rfl) (pa_cons (pe_bltn (v := .ty "tuple") (by rfl) B.tuple bt_tuple rfl) pa_nil))) pa_nil))))), ?_⟩
    refine ⟨_, rfl, by show 2 ≤ sizeLine; decide, fun p hp => ?_⟩
    refine ⟨v, p, _, t, [.type "list", .type "tuple"], b || c, rfl, upd_same, .cons (.ty _) (.cons (.ty _) .nil), TyX.same ty (same_new hp), ?_, q _ (same_new hp)⟩
    cases b with
    | true => exact kitAny_cons h1 (fun z => absurd z (by decide)) (fun _ => rfl)
    | false =>
      refine kitAny_cons h1 (fun _ => ?_) (fun z => absurd z (by decide))
      cases c with
      | true => exact kitAny_cons h2 (fun z => absurd z (by decide)) (fun _ => rfl)
      | false => exact kitAny_cons h2 (fun _ => rfl) (fun z => absurd z (by decide))
theorem islist_seq {H : Hp} {b : Bool} {a : Addr} {xs : List V} {Q : VK} (h : SqK b K H a xs) (q : ∀ H', Same H H' → Q (.bl true) H') : sp_islist K [.ref a] H Q E0 := by
  cases b
  · exact ⟨_, _, false, true, rfl, tyT h, kit_ty (by decide +kernel), kit_ty (by decide +kernel), q⟩
  · exact ⟨_, _, true, false, rfl, tyL h, kit_ty (by decide +kernel), kit_ty (by decide +kernel), q⟩
/-! is_axis, are_parts, is_cut -/
def sp_isaxis : Sp := fun vs H Q _ => ∃ a : Nat, vs = [.str (axn a)] ∧ Q (.bl true) H
theorem ok_isaxis {f : Addr} {fd : FuncData} (F : Df K "is_axis" "is_axis" s_isaxis [] f fd) (B : Blt mg) (G : PlG K mg C AX) : FnOk P w K mg base CX0 1 f fd ["value"] sp_isaxis := by
  refine dfOk F sc_isaxis (fun vs H Q E h => ?_) (fun cdv A outer s H vs Q E hr h => ?_)
  · obtain ⟨v, rfl, _⟩ := h
    rfl
  · obtain ⟨a, rfl, q⟩ := h
    refine ⟨_, (pss_one (ps_ret (pe_and (pe_callB call_isi' (by rfl) B.isinstance bt_isinstance (pa_cons (pv 0) (pa_cons (pe_bltn (v := .ty "str") (by rfl) B.str bt_str rfl) pa_nil))) (pe_one (pe_cmpR op_in_seq (pv 0) (pe_glob (v := .ref AX) (by rfl) G.axes rfl) (by rfl)))))), ?_⟩
    refine ⟨_, rfl, _, _, _, _, true, rfl, .ty _, .base (.str _), kit_ty (by decide +kernel), true, rfl, iteT ?_⟩
    refine ⟨_, rfl, AX, _, rfl, .inr (G.axt H), rfl, rfl, ?_⟩
    have e : inV (.str (axn a)) [.str "east", .str "north"] = true := by
      unfold axn
      split <;> decide +kernel
    show Q (.bl (inV (.str (axn a)) [.str "east", .str "north"])) H
    rw [e]
    exact q
def sp_areparts : Sp := fun vs H Q _ => ∃ i : Int, vs = [.int i] ∧ 2 ≤ i ∧ i ≤ 4 ∧ Q (.bl true) H
theorem ok_areparts {f : Addr} {fd : FuncData} (F : Df K "are_parts" "are_parts" s_areparts [] f fd) (G : PlG K mg C AX) (cI : Ca P w K mg base 1 "is_integer" (sp_isint K) []) : FnOk P w K mg base CX0 2 f fd ["value"] sp_areparts := by
  refine dfOk F sc_areparts (fun vs H Q E h => ?_) (fun cdv A outer s H vs Q E hr h => ?_)
  · obtain ⟨v, rfl, _⟩ := h
    rfl
  · obtain ⟨i, rfl, h1, h2, q⟩ := h
    refine ⟨_, (pss_one (ps_ret (pe_and (pe_ca cI hr (by decide) (by rfl) (pa_cons (pv 0) pa_nil)) (pe_one (pe_chain op_le op_le (pe_globI G.few (by rfl)) (pv 0) (pe_globI G.most (by rfl))))))), ?_⟩
    refine ⟨_, rfl, tnil (isint_int ⟨_, rfl, iteT ⟨_, rfl, _, _, rfl, rfl, _, rfl, ?_⟩⟩)⟩
    rw [decide_eq_true h1]
    refine iteT ⟨_, _, rfl, rfl, ?_⟩
    show Q (.bl (decide (i ≤ 4))) H
    rw [decide_eq_true h2]
    exact q
def sp_iscut (K : PySem.W.Frag) : Sp := fun vs H Q _ => ∃ (v : V) (c : Pm.Cut), vs = [v] ∧ Dp K H v (pCut c) ∧ Pm.CutOk c ∧ Q (.bl true) H
theorem c_iscut {K : PySem.W.Frag} {v : V} {c : Pm.Cut} {H : Hp} {Q : VK} {E : XK} (h0 : Dp K H v (pCut c)) (h1 : Pm.CutOk c) (q : Q (.bl true) H) : sp_iscut K [v] H Q E := ⟨_, _, rfl, h0, h1, q⟩
theorem cut_at {H : Hp} {v : V} {c : Pm.Cut} (h : Dp K H v (pCut c)) : ∃ a, v = .ref a ∧ SqT K H a [.str (axn c.1), .int c.2] := by
  obtain ⟨a, xs, rfl, hs, ha⟩ := h.tupE
  cases ha with
  | cons h1 h2 =>
    cases h2 with
    | cons h2 h3 =>
      cases h3
      rw [h1.strE, h2.intE] at hs
      exact ⟨a, rfl, hs⟩
theorem ok_iscut {f : Addr} {fd : FuncData} (F : Df K "is_cut" "is_cut" s_iscut [] f fd) (B : Blt mg) (cA : Ca P w K mg base 1 "is_axis" sp_isaxis []) (cP : Ca P w K mg base 2 "are_parts" sp_areparts []) : FnOk P w K mg base CX0 3 f fd ["value"] (sp_iscut K) := by
  refine dfOk F sc_iscut (fun vs H Q E h => ?_) (fun cdv A outer s H vs Q E hr h => ?_)
  · obtain ⟨v, c, rfl, _⟩ := h
    rfl
  · obtain ⟨v, c, rfl, hd, hc, q⟩ := h
    obtain ⟨a, rfl, hs⟩ := cut_at hd
    have h1 := hc.2.1
    have h2 := hc.2.2
    refine ⟨_, (pss_one (ps_ret (pe_and (pe_callB call_isi' (by rfl) B.isinstance bt_isinstance (pa_cons (pv 0) (pa_cons (pe_bltn (v := .ty "tuple") (by rfl) B.tuple bt_tuple rfl) pa_nil))) (pe_and (pe_cmpR op_eq (pe_callB call_len_seq' (by rfl) B.len bt_len (pa_cons (pv 0) pa_nil)) pe_int (nomark _)) (pe_and (pe_ca cA hr (by decide) (by rfl) (pa_cons (pe_ix ix_tup' (pv 0) pe_int (fun _ _ => rfl)) pa_nil)) (pe_one (pe_ca cP hr (by decide) (by rfl) (pa_cons (pe_ix ix_tup' (pv 0) pe_int (fun _ _ => rfl)) pa_nil)))))))), ?_⟩
    refine ⟨_, rfl, _, _, _, _, true, rfl, .ty _, tyT hs, kit_ty (by decide +kernel), true, rfl, iteT ?_⟩
    refine ⟨_, rfl, a, _, rfl, .inr hs, rfl, _, rfl, iteT ?_⟩
    refine ⟨_, rfl, a, _, _, _, rfl, rfl, hs, rfl, c.1, rfl, _, rfl, iteT ?_⟩
    exact ⟨_, rfl, a, _, _, _, rfl, rfl, hs, rfl, _, rfl, by omega, by omega, q⟩
/-! is_round -/
def sp_isround (K : PySem.W.Frag) : Sp := fun vs H Q _ => ∃ (v : V) (b : Bool) (r : List Pm.Cut), vs = [v] ∧ Dp K H v (dSeq b (r.map pCut)) ∧ Pm.RndOk r ∧ ∀ H', Same H H' → Q (.bl true) H'
theorem c_isround {K : PySem.W.Frag} {v : V} {b : Bool} {r : List Pm.Cut} {H : Hp} {Q : VK} {E : XK} (h0 : Dp K H v (dSeq b (r.map pCut))) (h1 : Pm.RndOk r) (q : ∀ H', Same H H' → Q (.bl true) H') : sp_isround K [v] H Q E := ⟨_, _, _, rfl, h0, h1, q⟩
theorem ok_isround {f : Addr} {fd : FuncData} (F : Df K "is_round" "is_round" s_isround [] f fd) (B : Blt mg) (G : PlG K mg C AX) (cL : Ca P w K mg base 1 "is_list" (sp_islist K) []) (cC : Ca P w K mg base 3 "is_cut" (sp_iscut K) []) : FnOk P w K mg base CX0 4 f fd ["value"] (sp_isround K) := by
  refine dfOk F sc_isround (fun vs H Q E h => ?_) (fun cdv A outer s H vs Q E hr h => ?_)
  · obtain ⟨v, b, r, rfl, _⟩ := h
    rfl
  · obtain ⟨v, b, r, rfl, hd, hok, q⟩ := h
    obtain ⟨a, xs, rfl, hs, ha⟩ := hd.seqE
    have hlen : xs.length = r.length := by rw [ha.len, List.length_map]
    have l1 := hok.1
    have l2 := hok.2.1
    refine ⟨_, (pss_one (ps_ret (pe_and (pe_ca cL hr (by decide) (by rfl) (pa_cons (pv 0) pa_nil)) (pe_and (pe_chain op_le op_le pe_int (pe_callB call_len_seq' (by rfl) B.len bt_len (pa_cons (pv 0) pa_nil)) (pe_ccon G.mc (by rfl) G.mgC)) (pe_one (pe_callB (cr_all rfl) (by rfl) B.all bt_all (pa_cons (pe_lc (own := [("cut", 1)]) (by rfl) sc_isround.nd (pi_seq (pv 0)) (blkOk_by (own := [("cut", 1)]) (N := ["value", "cut"]) (sc := defScope s_isround) (by decide +kernel)) (fun _ _ _ _ _ => (pg_name (i := 1) sc_isround.nd rfl (Or.inl rfl))) (fun _ _ _ _ _ => pts_nil) (fun _ _ _ _ _ => (pe_ca cC hr (by decide) (by rfl) (pa_cons (pv 1) pa_nil)))) pa_nil))))))), ?_⟩
    refine ⟨_, rfl, tnil (islist_seq hs fun H1 s1 => ⟨_, rfl, iteT ?_⟩)⟩
    have hs1 := Same.sqk s1 hs
    refine ⟨_, rfl, a, _, rfl, sqK_or hs1, _, _, rfl, rfl, _, rfl, ?_⟩
    rw [decide_eq_true (show (1 : Int) ≤ (xs.length : Nat) by omega)]
    refine iteT ⟨_, _, rfl, rfl, _, rfl, ?_⟩
    rw [decide_eq_true (show ((xs.length : Nat) : Int) ≤ 5 by omega)]
    refine iteT ?_
    refine ⟨_, rfl, b, a, xs, rfl, hs1, fun D hD => lc_nl (K := K) walk_K (List.replicate xs.length (.bool true)) (by simp) (by omega) (NLs.of fun d hd => by rw [List.eq_of_mem_replicate hd]; rfl) hD (fun H' s' => Same.sqk s' hs1) ?_ ?_ gName_mono⟩
    · rintro i e x H2 _ Q2 hi he s2 ⟨rfl, hx⟩ hq
      refine ⟨rfl, ?_⟩
      obtain ⟨d, hd1, hd2⟩ := ha.get hx
      rw [List.getElem?_map] at hd1
      obtain ⟨c, hc1, rfl⟩ := Option.map_eq_some_iff.mp hd1
      have hcm : c ∈ r := List.mem_of_getElem? hc1
      obtain rfl : e = .bool true := by
        have := List.mem_of_getElem? he
        exact List.eq_of_mem_replicate this
      exact ⟨_, rfl, x, c, rfl, (hd2.up s1).up s2, hok.2.2.1 c hcm, hq _ _ (Same.refl _) (.bl true)⟩
    · rintro H2 ys s2 eD hall
      have hys : ys = (List.replicate xs.length true).map V.bl := DpAll.boolsE (by rw [List.map_replicate]; exact hall)
      refine ⟨D, List.replicate xs.length true, rfl, SqL.of (by rw [eD, hys]), ?_⟩
      have e : (List.replicate xs.length true).all id = true := by simp
      rw [e]
      exact q _ (s1.trans s2)
/-! parts_along -/
def sp_along1 (K : PySem.W.Frag) : Sp := fun vs H Q _ => ∃ (v : V) (b : Bool) (r : List Pm.Cut) (ax : Nat), vs = [v, .str (axn ax)] ∧ ax < 2 ∧ Dp K H v (dSeq b (r.map pCut)) ∧ Pm.RndOk r ∧ Q (.int (Pm.wid r ax)) H
theorem c_along1 {K : PySem.W.Frag} {v : V} {b : Bool} {r : List Pm.Cut} {ax : Nat} {H : Hp} {Q : VK} {E : XK} (h0 : ax < 2) (h1 : Dp K H v (dSeq b (r.map pCut))) (h2 : Pm.RndOk r) (q : Q (.int (Pm.wid r ax)) H) : sp_along1 K [v, .str (axn ax)] H Q E := ⟨_, _, _, _, rfl, h0, h1, h2, q⟩
theorem wid_take {r : List Pm.Cut} {i : Nat} {c : Pm.Cut} (h : r[i]? = some c) (ax : Nat) : Pm.wid (r.take (i + 1)) ax = Pm.wid (r.take i) ax * (if c.1 = ax then c.2 else 1) := by
  rw [List.take_add_one, h]
  simp only [Option.toList]
  rw [Pm.wid_app]
  simp [Pm.wid]
theorem wid_le {r : List Pm.Cut} (h : Pm.RndOk r) (i ax : Nat) (hax : ax < 2) : Pm.wid (r.take i) ax ≤ 32 := by
  have hc := h.2.2.1
  have e := Pm.wid_app (r.take i) (r.drop i) ax
  rw [List.take_append_drop] at e
  have p := Pm.wid_pos (r := r.drop i) (fun c hc' => hc c (List.mem_of_mem_drop hc')) ax
  have l1 : Pm.wid (r.take i) ax ≤ Pm.wid r ax := by rw [e]; exact Nat.le_mul_of_pos_right _ p
  have es := Pm.size_wid hc
  have s := h.2.2.2
  have p0 := Pm.wid_pos hc 0
  have p1 := Pm.wid_pos hc 1
  have h01 : ax = 0 ∨ ax = 1 := by omega
  rcases h01 with rfl | rfl
  · have := Nat.le_mul_of_pos_right (Pm.wid r 0) p1; omega
  · have := Nat.le_mul_of_pos_left (Pm.wid r 1) p0; omega
theorem ok_along1 {f : Addr} {fd : FuncData} (F : Df K "parts_along" "parts_along" s_along1 [] f fd) : FnOk P w K mg base CX0 1 f fd ["cuts", "axis"] (sp_along1 K) := by
  refine dfOk F sc_along1 (fun vs H Q E h => ?_) (fun cdv A outer s H vs Q E hr h => ?_)
  · obtain ⟨v, b, r, ax, rfl, _⟩ := h
    rfl
  · obtain ⟨v, b, r, ax, rfl, hax, hd, hok, q⟩ := h
    obtain ⟨a, xs, rfl, hs, ha⟩ := hd.seqE
    have hlen : xs.length = r.length := by rw [ha.len, List.length_map]
    refine ⟨_, (pss_cons (ps_set (i := 2) sc_along1.nd rfl (Or.inl rfl) pe_int)
  (pss_cons (ps_for PassesOwn.never rfl (pi_seq (pv 0)) (pg_tup' 2 (pgs_cons (pg_name (i := 3) sc_along1.nd rfl (Or.inl rfl)) (pgs_cons (pg_name (i := 4) sc_along1.nd rfl (Or.inl rfl)) pgs_nil)))
  (pss_one (ps_if (pt_cmpR op_eq (pv 3) (pv 1) (nomark _))
  (pss_one (ps_set (i := 2) sc_along1.nd rfl (Or.inl rfl) (pe_op op_mul (pv 2) (pv 4))))
  pss_nil)))
  (pss_one (ps_ret (pv 2))))), ?_⟩
    refine ⟨_, rfl, b, a, xs, rfl, hs, for_it walk_K (fun i σ H' => H' = H ∧ ∃ v1 v2, σ = [some (.ref a), some (.str (axn ax)), some (.int (Pm.wid (r.take i) ax)), v1, v2]) ⟨rfl, _, _, rfl⟩ (fun i σ H' _ h => by rw [h.1]; exact hs) ?_ ?_⟩
    · rintro i x σ H' H'' hi ⟨rfl, v1, v2, rfl⟩ ⟨rfl, hx⟩
      obtain ⟨d, hd1, hd2⟩ := ha.get hx
      rw [List.getElem?_map] at hd1
      obtain ⟨c, hc1, rfl⟩ := Option.map_eq_some_iff.mp hd1
      have hcm : c ∈ r := List.mem_of_getElem? hc1
      have hc := hok.2.2.1 c hcm
      obtain ⟨t, rfl, ht⟩ := cut_at hd2
      have hw := wid_take hc1 ax
      have hb := wid_le hok i ax hax
      refine ⟨t, _, rfl, ht, rfl, _, _, rfl, _, _, rfl, rfl, ?_⟩
      refine ⟨_, rfl, _, rfl, rfl, _, rfl, ?_⟩
      rw [axn_eq hc.1 hax]
      refine ite2 (fun h => ?_) (fun h => ?_)
      · have h' := of_decide_eq_true h
        refine ⟨_, rfl, _, rfl, _, _, rfl, rfl, .inl ⟨by omega, by omega⟩, rfl, some (.str (axn c.1)), some (.int c.2), ?_⟩
        rw [hw, if_pos h', Int.natCast_mul]
        rfl
      · have h' : ¬ c.1 = ax := fun z => h (decide_eq_true z)
        refine ⟨rfl, some (.str (axn c.1)), some (.int c.2), ?_⟩
        rw [hw, if_neg h', Nat.mul_one]
        rfl
    · rintro σ H' ⟨rfl, v1, v2, rfl⟩
      refine ⟨_, rfl, ?_⟩
      rw [hlen, List.take_length]
      exact q
end
end T
set_option Elab.async false
set_option maxRecDepth 100000
set_option maxHeartbeats 4000000
namespace L2
open PySem PySem.Spec PyProof.Rows Mv
section
variable {K : PySem.W.Frag}
/-- lists of data without lists, none of them at D -/
inductive LAll (K : PySem.W.Frag) (H : Hp) (D : Addr) : List V → List (List PyData) → Prop
  | nil : LAll K H D [] []
  | cons {q : Addr} {zs ys : List V} {e : List PyData} {es : List (List PyData)} (n : q ≠ D) (h : H q = some (.lst zs)) (ha : DpAll K H zs e) (r : LAll K H D ys es) : LAll K H D (.ref q :: ys) (e :: es)
theorem LAll.app {H : Hp} {D : Addr} : ∀ {xs ys : List V} {es fs : List (List PyData)}, LAll K H D xs es → LAll K H D ys fs → LAll K H D (xs ++ ys) (es ++ fs)
  | _, _, _, _, .nil, h => h
  | _, _, _, _, .cons n h ha r, g => .cons n h ha (LAll.app r g)
theorem LAll.len {H : Hp} {D : Addr} : ∀ {xs : List V} {es : List (List PyData)}, LAll K H D xs es → xs.length = es.length
  | _, _, .nil => rfl
  | _, _, .cons _ _ _ r => by rw [List.length_cons, List.length_cons, LAll.len r]
theorem LAll.bu {H H' : Hp} {D : Addr} {ws : List V} (b : Bu D H H') (hD : H D = some (.lst ws)) : ∀ {xs : List V} {es : List (List PyData)}, (∀ e ∈ es, NLs e = true) → LAll K H D xs es → LAll K H' D xs es
  | _, _, _, .nil => .nil
  | _, _, nl, .cons n h ha r => .cons n (b _ _ n h) (ha.bu (nl _ (List.mem_cons_self ..)) b hD) (LAll.bu b hD (fun e he => nl e (List.mem_cons_of_mem _ he)) r)
theorem LAll.dp {H : Hp} {D : Addr} : ∀ {xs : List V} {es : List (List PyData)}, LAll K H D xs es → DpAll K H xs (es.map PyData.list)
  | _, _, .nil => .nil
  | _, _, .cons _ h ha r => .cons (.lst (SqL.of h) ha) (LAll.dp r)
/-- a comprehension whose items are new lists of data without lists -/
theorem lc_ll {J : It} {n : Nat} {G : Hp → Prop} {Y : Nat → Hp → V → Hp → Prop} (w : Walk J n G Y) {g : TG} {te : TE} {vs : List Nat} {σ : L2.St} {H1 : Hp} {D : Addr} {Qd : Hp → Prop} (es : List (List PyData)) (hn : es.length = n) (hz : n ≤ 100000) (hl : ∀ e ∈ es, NLs e = true) (hD : H1 D = none)
    (hG : ∀ H, Same H1 H → G H)
    (hs : ∀ (i : Nat) (e : List PyData) (x : V) (H H' : Hp) (Q : VK), i < n → es[i]? = some e → Same H1 H → Y i H x H' → (∀ q zs H4, Same H H4 → H q = none → H4 q = some (.lst zs) → DpAll K H4 zs e → Q (.ref q) H4) →
      g x (wipe σ vs) H' fun σ2 H2 => wipe σ2 vs = wipe σ vs ∧ te σ2 H2 Q)
    (hd : ∀ H ys, Same H1 H → H D = some (.lst ys) → DpAll K H ys (es.map PyData.list) → Qd H) (hg : ∀ x σ' H' (P Q : L2.St → Hp → Prop), (∀ σ2 H2, P σ2 H2 → Q σ2 H2) → g x σ' H' P → g x σ' H' Q) :
    ∃ W : Nat → Nat → Hp → Prop, (∃ m, W 0 m (upd H1 D (.lst []))) ∧ ∀ i m H, W i m H →
      (J.stop i H ∧ Qd H) ∨ (J.go i H ∧ ∃ Nx : Hp → Prop, (∀ H', Nx H' → ∃ m', m' < m ∧ W (i + 1) m' H') ∧ ∀ x H', J.yld i H x H' → g x (wipe σ vs) H' fun σ2 H2 => wipe σ2 vs = wipe σ vs ∧ tYes σ2 H2 fun b H3 =>
        if b = true then te σ2 H3 fun y H4 => ∃ acc, H4 D = some (.lst acc) ∧ acc.length < sizeLine ∧ Nx (upd H4 D (.lst (acc ++ [y]))) else Nx H3) := by
  refine lc_it w (fun i H => Same H1 H ∧ ∃ ys, H D = some (.lst ys) ∧ LAll K H D ys (es.take i)) ⟨same_new hD, [], upd_same, by simp; exact .nil⟩ (fun i H _ h => hG H h.1) ?_ ?_
  · rintro i x H H' hi ⟨s, ys, ed, ha⟩ hy
    have he : es[i]? = some es[i] := List.getElem?_eq_getElem (by omega)
    refine hg x _ H' _ _ (fun σ2 H2 h => ⟨h.1, h.2⟩) (hs i es[i] x H H' (fun y H4 => ∃ acc, H4 D = some (.lst acc) ∧ acc.length < sizeLine ∧ Same H1 (upd H4 D (.lst (acc ++ [y]))) ∧ ∃ ys, upd H4 D (.lst (acc ++ [y])) D = some (.lst ys) ∧ LAll K (upd H4 D (.lst (acc ++ [y]))) D ys (es.take (i + 1))) hi he s hy fun q zs H4 s4 hq eq dz => ?_)
    have e4 := s4 _ _ ed
    have hlen := ha.len
    have hqD : q ≠ D := fun z => by rw [z, ed] at hq; cases hq
    refine ⟨ys, e4, ?_, same_over (s.trans s4) hD, ys ++ [.ref q], upd_same, ?_⟩
    · rw [hlen, List.length_take]; unfold sizeLine; omega
    · rw [List.take_add_one, he]
      have b1 : Bu D H (upd H4 D (.lst (ys ++ [.ref q]))) := (Bu.of s4 D).trans Bu.set
      have b2 : Bu D H4 (upd H4 D (.lst (ys ++ [.ref q]))) := Bu.set
      exact (ha.bu b1 ed (fun e he => hl e (List.mem_of_mem_take he))).app (.cons hqD (b2 _ _ hqD eq) (dz.bu (hl _ (List.getElem_mem _)) b2 e4) .nil)
  · rintro H ⟨s, ys, ed, ha⟩
    refine hd H ys s ed ?_
    rw [← hn, List.take_length] at ha
    exact ha.dp
theorem NLs.map {α : Type} (f : α → PyData) (h : ∀ x, NL (f x) = true) (xs : List α) : NLs (xs.map f) = true := NLs.of fun d hd => by
  obtain ⟨x, _, rfl⟩ := List.mem_map.mp hd
  exact h x
theorem NL.pCut (c : Pm.Cut) : NL (Mv.pCut c) = true := rfl
theorem NL.lCut (c : Pm.Cut) : NL (Mv.lCut c) = true := rfl
end
end L2
namespace Mv
open PySem PySem.Spec PyProof.Rows L2
section
variable {P : Program} {w : World} {K : PySem.W.Frag} {mg : Str → Option Value} {base : Heap}
theorem dfStar {x qual : Str} {st : Stmt} {f : Addr} {fd : FuncData} {N ps : List Str} {pv : Str} {k : Nat} {sp : Sp} (F : Df K x qual st [] f fd) (S : FnScope N (ps ++ [pv]) (defScope st))
    (hb : ∀ (kV doc pm : Value) (an : Option Addr) (cdv ct : Value) (us rest : List Value), us.length = ps.length → bindArgs (PySem.W.fnOf x qual (defArgs st) (defBody st) (defScope st) .none kV doc pm an cdv ct) ⟨us ++ rest, []⟩ = (newTuple rest >>= fun t => pure (ps.zip us ++ [(pv, t)])))
    (hbody : ∀ (cdv : Value) (A : Around) (outer : List Env) (s : Shared) (H : Hp) (vs : List V) (Q : VK) (E : XK), Room k (A.deeper (envOfC qual (defScope st) s.heap.objs.size f cdv)) → sp vs H Q E →
      ∃ t, PSs (cxOf CX0 P w K mg base N qual (defScope st) f cdv A outer s H E).nox (defBody st) t ∧ t { nx := fun _ H' => Q .non H', rt := Q } (start N vs) H) :
    FnR P w K mg base CX0 (k + 1) f (fun vs H Q E => ∃ ws rest, vs = ws ++ rest ∧ ws.length = ps.length ∧ rest.length ≤ sizeLine ∧ ∀ p, H p = Option.none → sp (ws ++ [V.ref p]) (upd H p (.tup rest)) Q E) := by
  obtain ⟨oc, od, dV, kV, doc, pm, an, cdv, ct, osl, rfl, lk, hcd, hd, _⟩ := F.ex
  rcases hd with ⟨_, e⟩ | ⟨e, _⟩
  · subst e
    refine StX.fn_star lk hcd S StX.cxUp_none (hb kV doc pm an cdv ct) fun A outer s H vs Q E hr hsp => ?_
    obtain ⟨t, h, q⟩ := hbody cdv A outer s H vs Q E hr hsp
    exact ⟨t, h.nox, q⟩
  · exact absurd rfl e
end
/-- a class made by positional arguments, any number of them -/
structure MaR (P : Program) (w : World) (K : PySem.W.Frag) (mg : Str → Option Value) (base : Heap) (k : Nat) (x : Str) (C : Addr) (sp : Sp) : Prop where
  ex : ∃ (f : Addr), Mk K C f ∧ FnR P w K mg base CX0 k f sp ∧ mg x = some (.ref C)
section
variable {X : Cx} {k j : Nat} {C : Addr} {x : Str} {sp : Sp} {p pos : Pos} {e : Expr} {es : List Expr} {t : TA}
theorem pe_mar (c : MaR X.prog X.w X.K X.mg X.base k x C sp) (hr : Room j X.A) (hk : k + 1 ≤ j) (hg : Gl X x) (ha : PA X (e :: es) t)
    (hdb : (x == ("__debug__" : Str)) = false := by decide) (he : starEach (e :: es) X.env = (false, eval e X.env) :: starEach es X.env := by rfl) (hpl : (backTo pos (starEach es X.env)).any (·.1) = false := by rfl) :
    PE X (.Call (.Name x p) (e :: es) [] pos) (StX.tMakeR C sp E0 t) := by
  obtain ⟨f, M, F, hm⟩ := c.ex
  exact StX.pe_makeR M F (hr.mono hk) hg hm pass0 ha hdb he hpl
end
end Mv
set_option Elab.async false
set_option maxRecDepth 100000
set_option maxHeartbeats 4000000
namespace Mv
open PySem PySem.Spec PyProof.Rows L2
/-- a pot: two counts -/
structure Pot (H : Hp) (p : Addr) : Prop where
  ex : ∃ x y : Int, H p = some (.lst [.int x, .int y]) ∧ 0 ≤ x ∧ 0 ≤ y ∧ y < 2147483648
theorem Pot.new {H : Hp} {p q : Addr} {o : HO} (h : Pot H p) (hq : H q = none) : Pot (upd H q o) p := by
  obtain ⟨x, y, e, r⟩ := h.ex
  exact ⟨x, y, by rw [upd_ne (ne_of_none e hq)]; exact e, r⟩
theorem Pot.ne {H : Hp} {p q : Addr} (h : Pot H p) (hq : H q = none) : q ≠ p := by
  obtain ⟨x, y, e, _⟩ := h.ex
  exact (ne_of_none e hq).symm
theorem Pot.same {H H' : Hp} {p : Addr} (h : Pot H p) (s : Same H H') : Pot H' p := by
  obtain ⟨x, y, e, r⟩ := h.ex
  exact ⟨x, y, s _ _ e, r⟩
theorem Pot.lst {H : Hp} {p : Addr} (h : Pot H p) : ∃ ys, H p = some (.lst ys) := by
  obtain ⟨x, y, e, _⟩ := h.ex
  exact ⟨_, e⟩
theorem _root_.L2.Bu.free {p q : Addr} {H H' : Hp} (b : Bu p H H') (hp : q ≠ p) (h : H' q = none) : H q = none := by
  cases e : H q with
  | none => rfl
  | some o => rw [b q o hp e] at h; cases h
theorem _root_.L2.Bu.seqL {K : PySem.W.Frag} {p l : Addr} {H H' : Hp} {xs : List V} (b : Bu p H H') (hl : l ≠ p) (h : SqL K H l xs) : SqL K H' l xs := by
  rcases h with (h | ⟨o, h⟩) | h
  · exact .inl (.inl (b _ _ hl h))
  · exact .inl (.inr ⟨o, b _ _ hl h⟩)
  · exact .inr h
theorem small_pow {n : Nat} (h : n ≤ 1000) : n < 2 ^ 8000 := Nat.lt_of_le_of_lt h (Nat.lt_of_lt_of_le (by decide : 1000 < 2 ^ 10) (Nat.pow_le_pow_right (by decide) (by decide)))
theorem log_small {n : Nat} (h : n ≤ 1000000000000000000) : n.log2 < 9000 := by
  rcases Nat.eq_zero_or_pos n with z | z
  · subst z; decide
  · exact (Nat.log2_lt (by omega)).mpr (Nat.lt_of_le_of_lt h (Nat.lt_of_lt_of_le (by decide : 1000000000000000000 < 2 ^ 60) (Nat.pow_le_pow_right (by decide) (by decide))))
/-! the promises of pot, draw and pick -/
def sp_pot (K : PySem.W.Frag) : Sp := fun vs H Q _ => ∃ (a : Addr) (ns : List Int) (k : Nat), vs = [.ref a, .int k] ∧ SqL K H a (ns.map V.int) ∧ k < 100 ∧
  ∀ p, H p = none → ∀ x y : Int, 0 ≤ x → 0 ≤ y → y < 2147483648 → Q (.ref p) (upd H p (.lst [.int x, .int y]))
/-- a draw below n -/
def sp_draw : Sp := fun vs H Q _ => ∃ (p : Addr) (n : Int), vs = [.ref p, .int n] ∧ Pot H p ∧ 0 < n ∧ n.natAbs ≤ 1000000000000000000 ∧ ∀ (d : Nat) (H' : Hp), (d : Int) < n → Pot H' p → Bu p H H' → Q (.int d) H'
def sp_pick (K : PySem.W.Frag) : Sp := fun vs H Q _ => ∃ (p l : Addr) (xs : List V), vs = [.ref p, .ref l] ∧ Pot H p ∧ l ≠ p ∧ SqL K H l xs ∧ xs ≠ [] ∧ xs.length ≤ 1000 ∧ ∀ (v : V) (H' : Hp), v ∈ xs → Pot H' p → Bu p H H' → Q v H'
end Mv
set_option Elab.async false
set_option maxRecDepth 100000
set_option maxHeartbeats 4000000
local macro_rules | `(tactic| walk_at "rd") => `(tactic| repeat (first
  | refine ⟨_, rfl, ?_⟩
  | refine ⟨_, _, rfl, rfl, ?_⟩
  | refine ⟨_, _, rfl, ?_⟩
  | refine Or.inl ⟨_, rfl, ?_⟩
  | refine ⟨.inl ⟨by decide, by decide⟩, ?_⟩
  | refine ⟨.inr ⟨by decide, by decide⟩, ?_⟩
  | refine ⟨(by decide : (0 : Int) < _), ?_⟩
  | refine ⟨⟨by decide, by decide, by decide⟩, ?_⟩))
namespace T
open PySem L2 Mv
abbrev s_pot : Stmt := top 36
theorem sc_pot : FnScope ["_law_script", "_law_k", "_law_figures"] ["_law_script", "_law_k"] (defScope s_pot) := ⟨rfl, rfl, rfl, by decide +kernel, rfl, by decide +kernel, by decide +kernel⟩
abbrev s_draw : Stmt := top 37
theorem sc_draw : FnScope ["_law_pot_here", "_law_size", "_law_digit"] ["_law_pot_here", "_law_size"] (defScope s_draw) := ⟨rfl, rfl, rfl, by decide +kernel, rfl, by decide +kernel, by decide +kernel⟩
abbrev s_pick : Stmt := top 38
theorem sc_pick : FnScope ["_law_pot_here", "_law_some"] ["_law_pot_here", "_law_some"] (defScope s_pick) := ⟨rfl, rfl, rfl, by decide +kernel, rfl, by decide +kernel, by decide +kernel⟩
section
variable {P : Program} {w : World} {K : PySem.W.Frag} {mg : Str → Option Value} {base : Heap} {C AX : Addr}
theorem ok_pot {f : Addr} {fd : FuncData} (F : Df K "_law_pot" "_law_pot" s_pot [] f fd) (B : Blt mg) : FnOk P w K mg base CX0 1 f fd ["_law_script", "_law_k"] (sp_pot K) := by
  refine dfOk F sc_pot (fun vs H Q E h => ?_) (fun cdv A outer s H vs Q E hr h => ?_)
  · obtain ⟨a, ns, k, rfl, _⟩ := h
    rfl
  · obtain ⟨a, ns, k, rfl, hS, hk, q⟩ := h
    refine ⟨_, (pss_cons (ps_set (i := 2) sc_pot.nd rfl (Or.inl rfl) (pe_op op_add (pe_op op_mul pe_int (pv 1)) pe_int))
  (pss_cons (ps_if (pt_cmpR op_lt (pv 1) (pe_callB call_len_seq' (by rfl) B.len bt_len (pa_cons (pv 0) pa_nil)) (nomark _))
  (pss_one (ps_set (i := 2) sc_pot.nd rfl (Or.inl rfl) (pe_callB call_abs (by rfl) B.abs bt_abs (pa_cons (pe_ix ix_list' (pv 0) (pv 1) (fun _ _ => rfl)) pa_nil))))
  pss_nil)
  (pss_one (ps_ret (pe_lst (pa_cons (pe_callB (call_max2 rfl) (by rfl) B.max bt_max (pa_cons pe_int (pa_cons (pe_op op_sub (pv 2) (pe_op op_pow pe_int pe_int)) pa_nil))) (pa_cons (pe_op op_add (pe_op op_mod (pe_op op_mul (pe_callTy call_int1 (by rfl) B.int bt_int (pa_cons (pe_op op_add (pe_op op_mod (pe_callTy call_int1 (by rfl) B.int bt_int (pa_cons (pv 2) pa_nil)) pe_int) pe_int) pa_nil)) (pe_op op_pow (pe_op op_add (pe_op op_mul pe_int (pv 1)) pe_int) pe_int)) pe_int) pe_int) pa_nil))))))), ?_⟩
    walk_at "rd"
    refine ⟨a, _, rfl, .inl hS, ?_⟩
    walk_at "rd"
    have fin : ∀ y : Int, 0 ≤ y % 2147483477 + 1 ∧ y % 2147483477 + 1 < 2147483648 := fun y => by omega
    have fin2 : ∀ z : Int, 0 ≤ (if z > 0 then z else 0) := fun z => by split <;> omega
    refine ite2 (fun hlt => ?_) (fun _ => ?_)
    · have hlt' : k < (ns.map V.int).length := by
        have h0 := of_decide_eq_true hlt
        omega
      have hn : k < ns.length := by simpa using hlt'
      walk_at "rd"
      refine ⟨a, _, _, _, rfl, rfl, hS, atI_nat (by rw [List.getElem?_map, List.getElem?_eq_getElem hn]; rfl), ?_⟩
      walk_at "rd"
      refine ⟨⟨by decide, by decide, by omega⟩, ?_⟩
      walk_at "rd"
      refine ⟨.inl ⟨by omega, by omega⟩, ?_⟩
      walk_at "rd"
      refine ⟨by show 2 ≤ sizeLine; decide, fun p hp => ?_⟩
      exact q p hp _ _ (fin2 _) (fin _).1 (fin _).2
    · walk_at "rd"
      refine ⟨⟨by decide, by decide, by omega⟩, ?_⟩
      walk_at "rd"
      refine ⟨.inl ⟨by omega, by omega⟩, ?_⟩
      walk_at "rd"
      refine ⟨by show 2 ≤ sizeLine; decide, fun p hp => ?_⟩
      exact q p hp _ _ (fin2 _) (fin _).1 (fin _).2
theorem ok_draw {f : Addr} {fd : FuncData} (F : Df K "_law_draw" "_law_draw" s_draw [] f fd) (B : Blt mg) : FnOk P w K mg base CX0 1 f fd ["_law_pot_here", "_law_size"] sp_draw := by
  refine dfOk F sc_draw (fun vs H Q E h => ?_) (fun cdv A outer s H vs Q E hr h => ?_)
  · obtain ⟨p, n, rfl, _⟩ := h
    rfl
  · obtain ⟨p, n, rfl, hp, hn, hz, q⟩ := h
    obtain ⟨x, y, e, hx, hy, hy2⟩ := hp.ex
    have fin : ∀ (d : Int) (H' : Hp), 0 ≤ d → d < n → Pot H' p → Bu p H H' → Q (.int d) H' := fun d H' h0 h1 h2 h3 => by
      obtain ⟨j, rfl⟩ := Int.eq_ofNat_of_zero_le h0
      exact q j H' h1 h2 h3
    refine ⟨_, (pss_cons (ps_if (pt_cmpR op_gt (pe_ix ix_list' (pv 0) pe_int (fun _ _ => rfl)) pe_int (nomark _))
  (pss_cons (ps_asg (pe_callB call_divmodW (by rfl) B.divmod bt_divmod (pa_cons (pe_ix ix_list' (pv 0) pe_int (fun _ _ => rfl)) (pa_cons (pv 1) pa_nil))) (pg_tup' 2 (pgs_cons (pg_sub (pv 0) pe_int set_list) (pgs_cons (pg_name (i := 2) sc_draw.nd rfl (Or.inl rfl)) pgs_nil))))
  (pss_one (ps_ret (pv 2))))
  pss_nil)
  (pss_cons (ps_asg (pe_op op_mod (pe_callTy call_int1 (by rfl) B.int bt_int (pa_cons (pe_op op_add (pe_op op_mul (pe_ix ix_list' (pv 0) pe_int (fun _ _ => rfl)) pe_int) pe_int) pa_nil)) pe_int) (pg_sub (pv 0) pe_int set_list))
  (pss_one (ps_ret (pe_op op_mod (pe_callTy call_int1 (by rfl) B.int bt_int (pa_cons (pe_op op_fdiv (pe_op op_mod (pe_callTy call_int1 (by rfl) B.int bt_int (pa_cons (pe_op op_mul (pe_ix ix_list' (pv 0) pe_int (fun _ _ => rfl)) (pe_ix ix_list' (pv 0) pe_int (fun _ _ => rfl))) pa_nil)) pe_int) pe_int) pa_nil)) (pv 1)))))), ?_⟩
    refine ⟨_, rfl, p, _, _, _, rfl, rfl, SqL.of e, rfl, _, _, rfl, rfl, _, rfl, ?_⟩
    refine ite2 (fun h => ?_) (fun h => ?_)
    · refine ⟨_, rfl, p, _, _, _, rfl, rfl, SqL.of e, rfl, _, rfl, _, _, rfl, divp_of hn (log_small hz), fun t ht => ?_⟩
      refine ⟨t, _, rfl, SqT.of upd_same, rfl, _, _, rfl, _, rfl, p, _, _, 0, rfl, rfl, by rw [upd_ne (ne_of_none e ht)]; exact e, rfl, _, _, rfl, rfl, _, rfl, ?_⟩
      refine fin _ _ (Int.emod_nonneg _ (by omega)) (Int.emod_lt_of_pos _ hn) ⟨_, y, upd_same, Int.ediv_nonneg hx (by omega), hy, hy2⟩ ((Bu.new ht).trans Bu.set)
    · refine ⟨_, rfl, p, _, _, _, rfl, rfl, SqL.of e, rfl, _, _, rfl, rfl, .inr ⟨by decide, by decide⟩, ?_⟩
      walk_at "rd"
      refine ⟨p, _, _, 1, rfl, rfl, e, rfl, ?_⟩
      have hb : ∀ z : Int, 0 ≤ z % 2147483587 ∧ z % 2147483587 < 2147483648 := fun z => by omega
      refine ⟨_, rfl, p, _, _, _, rfl, rfl, SqL.of upd_same, rfl, _, rfl, p, _, _, _, rfl, rfl, SqL.of upd_same, rfl, _, _, rfl, rfl, .inl ⟨Int.lt_of_lt_of_le (by decide) (hb _).1, Int.lt_trans (hb _).2 (by decide)⟩, ?_⟩
      walk_at "rd"
      refine ⟨⟨by decide, by decide⟩, ?_⟩
      walk_at "rd"
      refine ⟨hn, ?_⟩
      exact fin _ _ (Int.emod_nonneg _ (by omega)) (Int.emod_lt_of_pos _ hn) ⟨x, _, upd_same, hx, (hb _).1, (hb _).2⟩ Bu.set
theorem ok_pick {f : Addr} {fd : FuncData} (F : Df K "_law_pick" "_law_pick" s_pick [] f fd) (B : Blt mg) (cDr : Ca P w K mg base 1 "_law_draw" sp_draw []) : FnOk P w K mg base CX0 2 f fd ["_law_pot_here", "_law_some"] (sp_pick K) := by
  refine dfOk F sc_pick (fun vs H Q E h => ?_) (fun cdv A outer s H vs Q E hr h => ?_)
  · obtain ⟨p, l, xs, rfl, _⟩ := h
    rfl
  · obtain ⟨p, l, xs, rfl, hp, hl, hS, hne, hlen, q⟩ := h
    refine ⟨_, (pss_one (ps_ret (pe_ix ix_list' (pv 1) (pe_ca cDr hr (by decide) (by rfl) (pa_cons (pv 0) (pa_cons (pe_callB call_len_seq' (by rfl) B.len bt_len (pa_cons (pv 1) pa_nil)) pa_nil))) (fun _ _ => rfl)))), ?_⟩
    have h0 : 0 < xs.length := List.length_pos_iff.mpr hne
    refine ⟨_, rfl, _, rfl, _, rfl, l, xs, rfl, .inl hS, p, _, rfl, hp, by omega, by omega, fun j H' hd2 hp' b => ?_⟩
    have hj : j < xs.length := by omega
    exact ⟨l, xs, _, xs[j], rfl, rfl, b.seqL hl hS, atI_nat (by simp [hj]), q _ _ (List.getElem_mem hj) hp' b⟩
/-- a draw, as it is called -/
theorem draw_lt {H : Hp} {p : Addr} {n : Int} {Q : VK} (hp : Pot H p) (h0 : 0 < n) (h1 : n ≤ 1000000) (q : ∀ (d : Nat) (H' : Hp), (d : Int) < n → Pot H' p → Bu p H H' → Q (.int d) H') : sp_draw [.ref p, .int n] H Q E0 := ⟨p, n, rfl, hp, h0, by omega, q⟩
end
end T
set_option Elab.async false
set_option maxRecDepth 100000
set_option maxHeartbeats 4000000
namespace T
open PySem L2 Mv
abbrev s_along : Stmt := top 29
theorem sc_along : FnScope ["cuts", "sign", "axis", "found", "count", "own_axis", "parts"] ["cuts", "sign", "axis"] (defScope s_along) := ⟨rfl, rfl, rfl, by decide +kernel, rfl, by decide +kernel, by decide +kernel⟩
abbrev s_placein : Stmt := top 30
theorem sc_placein : FnScope ["cuts", "sign"] ["cuts", "sign"] (defScope s_placein) := ⟨rfl, rfl, rfl, by decide +kernel, rfl, by decide +kernel, by decide +kernel⟩
abbrev s_prod : Stmt := inClass (top 32) 6
theorem sc_prod : FnScope ["self", "many", "columns", "rows", "position", "parts"] ["self", "many"] (defScope s_prod) := ⟨rfl, rfl, rfl, by decide +kernel, rfl, by decide +kernel, by decide +kernel⟩
abbrev s_init : Stmt := inClass (top 32) 3
theorem sc_init : FnScope ["self", "rounds", "cuts", "columns", "rows"] ["self", "rounds"] (defScope s_init) := ⟨rfl, rfl, rfl, by decide +kernel, rfl, by decide +kernel, by decide +kernel⟩
section
variable {P : Program} {w : World} {K : PySem.W.Frag} {mg : Str → Option Value} {base : Heap} {C AX : Addr}
/-- rounds as they are passed, each a list or a tuple -/
def pPass (brs : List (Bool × List Pm.Cut)) : List PyData := brs.map fun x => dSeq x.1 (x.2.map pCut)
def sp_wantrounds (K : PySem.W.Frag) : Sp := fun vs H Q _ => ∃ (v : V) (brs : List (Bool × List Pm.Cut)), vs = [v] ∧ Dp K H v (.tuple (pPass brs)) ∧ Pm.RdsOk (brs.map Prod.snd) ∧ ∀ H', Same H H' → Q .non H'
theorem c_wantrounds {K : PySem.W.Frag} {v : V} {brs : List (Bool × List Pm.Cut)} {H : Hp} {Q : VK} {E : XK} (h0 : Dp K H v (.tuple (pPass brs))) (h1 : Pm.RdsOk (brs.map Prod.snd)) (q : ∀ H', Same H H' → Q .non H') : sp_wantrounds K [v] H Q E := ⟨_, _, rfl, h0, h1, q⟩
theorem ok_wantrounds {f : Addr} {fd : FuncData} (F : Df K "want_rounds" "want_rounds" s_wantrounds [] f fd) (B : Blt mg) (G : PlG K mg C AX) (cR : Ca P w K mg base 4 "is_round" (sp_isround K) []) (c1 : Ca P w K mg base 1 "parts_along" (sp_along1 K) []) : FnOk P w K mg base CX0 5 f fd ["rounds"] (sp_wantrounds K) := by
  refine dfOk F sc_wantrounds (fun vs H Q E h => ?_) (fun cdv A outer s H vs Q E hr h => ?_)
  · obtain ⟨v, brs, rfl, _⟩ := h
    rfl
  · obtain ⟨v, brs, rfl, hd, hok, q⟩ := h
    obtain ⟨a, xs, rfl, hs, ha⟩ := hd.tupE
    have hlen : xs.length = brs.length := by rw [ha.len]; simp [pPass]
    have l1 : 1 ≤ brs.length := by have := hok.1; simpa using this
    have l2 : brs.length ≤ 3 := by have := hok.2.1; simpa using this
    have item : ∀ {i : Nat} {x : V}, xs[i]? = some x → ∃ b r, Dp K H x (dSeq b (r.map pCut)) ∧ Pm.RndOk r := by
      intro i x hx
      obtain ⟨d, hd1, hd2⟩ := ha.get hx
      unfold pPass at hd1
      rw [List.getElem?_map] at hd1
      obtain ⟨c, hc1, rfl⟩ := Option.map_eq_some_iff.mp hd1
      exact ⟨c.1, c.2, hd2, hok.2.2.1 _ (List.mem_map.mpr ⟨c, List.mem_of_getElem? hc1, rfl⟩)⟩
    refine ⟨_, (pss_cons (ps_if (pt_cmpR op_eq (pe_callB call_len_seq' (by rfl) B.len bt_len (pa_cons (pv 0) pa_nil)) pe_int (nomark _))
  pss_never
  pss_nil)
  (pss_cons (ps_for PassesOwn.never rfl (pi_enumA (by rfl) B.enumerate (pa_cons (pv 0) pa_nil)) (pg_tup' 2 (pgs_cons (pg_name (i := 1) sc_wantrounds.nd rfl (Or.inl rfl)) (pgs_cons (pg_name (i := 2) sc_wantrounds.nd rfl (Or.inl rfl)) pgs_nil)))
  (pss_one (ps_if (pt_not (pt_val (pe_ca cR hr (by decide) (by rfl) (pa_cons (pv 2) pa_nil))))
  pss_never
  pss_nil)))
  (pss_cons (ps_if (pt_cmpR op_gt (pe_callB call_len_seq' (by rfl) B.len bt_len (pa_cons (pv 0) pa_nil)) (pe_ccon G.mr (by rfl) G.mgC) (nomark _))
  pss_never
  pss_nil)
  (pss_one (ps_if (pt_val (pe_callB (cr_any rfl) (by rfl) B.any bt_any (pa_cons (pe_lc (own := [("cuts", 2)]) (by rfl) sc_wantrounds.nd (pi_seq (pv 0)) (blkOk_by (own := [("cuts", 2)]) (N := ["rounds", "position", "cuts"]) (sc := defScope s_wantrounds) (by decide +kernel)) (fun _ _ _ _ _ => (pg_name (i := 2) sc_wantrounds.nd rfl (Or.inl rfl))) (fun _ _ _ _ _ => pts_nil) (fun _ _ _ _ _ => (pe_cmpR op_gt (pe_op op_mul (pe_ca c1 hr (by decide) (by rfl) (pa_cons (pv 2) (pa_cons (pe_globS G.east (by rfl)) pa_nil))) (pe_ca c1 hr (by decide) (by rfl) (pa_cons (pv 2) (pa_cons (pe_globS G.north (by rfl)) pa_nil)))) (pe_ccon G.ms (by rfl) G.mgC) (nomark _)))) pa_nil)))
  pss_never
  pss_nil))))), ?_⟩
    refine ⟨_, rfl, a, _, rfl, .inr hs, rfl, _, rfl, ?_⟩
    rw [decide_eq_false (fun z => by have := V.int.inj z; omega)]
    refine iteF ?_
    refine ⟨_, rfl, false, a, xs, rfl, hs, for_it walk_enumK (fun i σ H' => Same H H' ∧ ∃ v1 v2, σ = [some (.ref a), v1, v2]) ⟨Same.refl H, _, _, rfl⟩ (fun i σ H' _ h => Same.tup h.1 hs) ?_ ?_⟩
    · rintro i x σ H1 H2 hi ⟨s1, v1, v2, rfl⟩ ⟨T, y, z, rfl, hT, rfl, hy, hz⟩
      obtain rfl := Option.some.inj hy
      obtain ⟨b, r, hdz, hrz⟩ := item hz
      have sT := fun o => same_new (o := o) hT
      refine ⟨T, _, rfl, SqT.of upd_same, rfl, _, _, rfl, _, _, rfl, rfl, ?_⟩
      refine ⟨_, rfl, z, b, r, rfl, (hdz.up s1).up (sT _), hrz, fun H3 s3 => ⟨_, rfl, ?_⟩⟩
      exact iteF ⟨s1.trans ((sT _).trans s3), _, _, rfl⟩
    · rintro σ H1 ⟨s1, v1, v2, rfl⟩
      have hs1 := Same.tup s1 hs
      refine ⟨_, rfl, a, _, rfl, .inr hs1, _, _, rfl, rfl, _, rfl, ?_⟩
      rw [decide_eq_false (show ¬ ((3 : Int) < (xs.length : Nat)) by omega)]
      refine iteF ?_
      refine ⟨_, rfl, false, a, xs, rfl, hs1, fun D hD => lc_nl (K := K) walk_K (List.replicate xs.length (.bool false)) (by simp) (by omega) (NLs.of fun d hd => by rw [List.eq_of_mem_replicate hd]; rfl) hD (fun H' s' => Same.sqk (b := false) s' hs1) ?_ ?_ gName_mono⟩
      · rintro i e x H2 _ Q2 hi he s2 ⟨rfl, hx⟩ hq
        refine ⟨rfl, ?_⟩
        obtain ⟨b, r, hdz, hrz⟩ := item hx
        obtain rfl : e = .bool false := List.eq_of_mem_replicate (List.mem_of_getElem? he)
        have w0 := wid_le hrz r.length 0 (by decide)
        have w1 := wid_le hrz r.length 1 (by decide)
        rw [List.take_length] at w0 w1
        refine ⟨_, rfl, x, b, r, 0, rfl, by decide, (hdz.up s1).up s2, hrz, _, rfl, x, b, r, 1, rfl, by decide, (hdz.up s1).up s2, hrz, _, _, rfl, rfl, .inl ⟨by omega, by omega⟩, _, _, rfl, rfl, ?_⟩
        have e : ¬ ((32 : Int) < (Pm.wid r 0 : Int) * (Pm.wid r 1 : Int)) := by
          have := Pm.size_wid hrz.2.2.1
          have := hrz.2.2.2
          rw [← Int.natCast_mul]
          omega
        show Q2 (.bl (decide ((32 : Int) < (Pm.wid r 0 : Int) * (Pm.wid r 1 : Int)))) _
        rw [decide_eq_false e]
        exact hq _ _ (Same.refl _) (.bl false)
      · rintro H2 ys s2 eD hall
        have hys : ys = (List.replicate xs.length false).map V.bl := DpAll.boolsE (by rw [List.map_replicate]; exact hall)
        refine ⟨D, List.replicate xs.length false, rfl, SqL.of (by rw [eD, hys]), _, rfl, ?_⟩
        have e : (List.replicate xs.length false).any id = false := by simp
        rw [e]
        exact iteF (q _ (s1.trans s2))
/-! along, place_in -/
def pRnd (r : List Pm.Cut) : PyData := .list (r.map pCut)
def sp_along (K : PySem.W.Frag) : Sp := fun vs H Q _ => ∃ (v : V) (r : List Pm.Cut) (s ax : Nat), vs = [v, .int s, .str (axn ax)] ∧ ax < 2 ∧ Dp K H v (pRnd r) ∧ Pm.RndOk r ∧ ∀ H', Same H H' → Q (.int (Pm.al r.reverse s ax)) H'
theorem c_along {K : PySem.W.Frag} {v : V} {r : List Pm.Cut} {s ax : Nat} {H : Hp} {Q : VK} {E : XK} (h0 : ax < 2) (h1 : Dp K H v (pRnd r)) (h2 : Pm.RndOk r) (q : ∀ H', Same H H' → Q (.int (Pm.al r.reverse s ax)) H') : sp_along K [v, .int s, .str (axn ax)] H Q E := ⟨_, _, _, _, rfl, h0, h1, h2, q⟩
theorem ok_along {f : Addr} {fd : FuncData} (F : Df K "along" "along" s_along [] f fd) : FnOk P w K mg base CX0 1 f fd ["cuts", "sign", "axis"] (sp_along K) := by
  refine dfOk F sc_along (fun vs H Q E h => ?_) (fun cdv A outer s H vs Q E hr h => ?_)
  · obtain ⟨v, r, s, ax, rfl, _⟩ := h
    rfl
  · obtain ⟨v, r, s0, ax, rfl, hax, hd, hok, q⟩ := h
    obtain ⟨a, xs, rfl, hs, ha⟩ := hd.lstE
    have har := ha.rev
    rw [← List.map_reverse] at har
    have hlen : xs.reverse.length = r.reverse.length := by rw [har.len, List.length_map]
    have hcut : ∀ c ∈ r.reverse, Pm.CutOk c := fun c hc => hok.2.2.1 c (List.mem_reverse.mp hc)
    generalize r.reverse = rr at *
    refine ⟨_, (pss_cons (ps_asg (pe_tup (pa_cons pe_int (pa_cons pe_int pa_nil))) (pg_tup' 2 (pgs_cons (pg_name (i := 3) sc_along.nd rfl (Or.inl rfl)) (pgs_cons (pg_name (i := 4) sc_along.nd rfl (Or.inl rfl)) pgs_nil))))
  (pss_cons (ps_for PassesOwn.never rfl (pi_list (pe_revL (pv 0))) (pg_tup' 2 (pgs_cons (pg_name (i := 5) sc_along.nd rfl (Or.inl rfl)) (pgs_cons (pg_name (i := 6) sc_along.nd rfl (Or.inl rfl)) pgs_nil)))
  (pss_cons (ps_if (pt_cmpR op_eq (pv 5) (pv 2) (nomark _))
  (pss_cons (ps_set (i := 3) sc_along.nd rfl (Or.inl rfl) (pe_op op_add (pv 3) (pe_op op_mul (pe_op op_mod (pv 1) (pv 6)) (pv 4))))
  (pss_one (ps_set (i := 4) sc_along.nd rfl (Or.inl rfl) (pe_op op_mul (pv 4) (pv 6)))))
  pss_nil)
  (pss_one (ps_set (i := 1) sc_along.nd rfl (Or.inl rfl) (pe_op op_fdiv (pv 1) (pv 6))))))
  (pss_one (ps_ret (pv 3))))), ?_⟩
    refine ⟨by show 2 ≤ sizeLine; decide, fun l0 hl0 => ⟨l0, _, rfl, SqT.of upd_same, rfl, _, _, rfl, _, _, rfl, rfl, ?_⟩⟩
    have s0' := same_new (o := .tup [.int 0, .int 1]) hl0
    refine ⟨_, rfl, a, xs, rfl, s0'.seq hs, fun l hl => ?_⟩
    have sl := fun o => s0'.trans (same_new (o := o) hl)
    refine ⟨l, rfl, ⟨_, SqL.of upd_same⟩, for_it (walk_list (xs := xs.reverse)) (fun i σ H' => H' = upd (upd H l0 (.tup [.int 0, .int 1])) l (.lst xs.reverse) ∧ ∃ v1 v2, ∃ (si fo co : Nat), σ = [some (.ref a), some (.int si), some (.str (axn ax)), some (.int fo), some (.int co), v1, v2] ∧ fo + co * Pm.al (rr.drop i) si ax = Pm.al rr s0 ax) ⟨rfl, _, _, s0, 0, 1, rfl, by simp⟩ (fun i σ H' _ h => by rw [h.1]; exact SqL.of upd_same) ?_ ?_⟩
    · rintro i x σ H' H'' hi ⟨rfl, v1, v2, si, fo, co, rfl, hinv⟩ ⟨rfl, hx⟩
      obtain ⟨d, hd1, hd2⟩ := har.get hx
      rw [List.getElem?_map] at hd1
      obtain ⟨c, hc1, rfl⟩ := Option.map_eq_some_iff.mp hd1
      have hc := hcut c (List.mem_of_getElem? hc1)
      have hi' : i < rr.length := by omega
      obtain ⟨t, rfl, ht⟩ := cut_at (hd2.up (sl (.lst xs.reverse)))
      have hp1 := hc.2.1
      have hp2 := hc.2.2
      have dr : rr.drop i = c :: rr.drop (i + 1) := by
        rw [List.drop_eq_getElem_cons hi']
        congr 1
        rw [List.getElem?_eq_getElem hi'] at hc1
        exact Option.some.inj hc1
      rw [dr] at hinv
      simp only [Pm.al] at hinv
      refine ⟨t, _, rfl, ht, rfl, _, _, rfl, _, _, rfl, rfl, ?_⟩
      refine ⟨_, rfl, _, rfl, rfl, _, rfl, ?_⟩
      rw [axn_eq hc.1 hax]
      refine ite2 (fun h => ?_) (fun h => ?_)
      · have h' := of_decide_eq_true h
        rw [if_pos h'] at hinv
        refine ⟨_, rfl, _, rfl, _, rfl, _, _, rfl, rfl, by show (0 : Int) < (c.2 : Int); omega, _, rfl, _, _, rfl, rfl, ?_, _, _, rfl, rfl, ?_⟩
        · have := Int.emod_lt_of_pos (si : Int) (show (0 : Int) < (c.2 : Int) by omega)
          have := Int.emod_nonneg (si : Int) (show (c.2 : Int) ≠ 0 by omega)
          exact .inl ⟨by omega, by omega⟩
        refine ⟨_, rfl, _, rfl, _, _, rfl, rfl, .inr ⟨by omega, by omega⟩, ?_⟩
        refine ⟨_, rfl, _, rfl, _, _, rfl, rfl, ⟨by omega, by omega⟩, rfl, some (.str (axn c.1)), some (.int c.2), si / c.2, fo + si % c.2 * co, co * c.2, ?_, ?_⟩
        · simp only [Int.natCast_add, Int.natCast_mul, Int.natCast_emod, Int.natCast_ediv]
          rfl
        · rw [← hinv, Nat.mul_add, ← Nat.mul_assoc, ← Nat.add_assoc, Nat.mul_comm (si % c.2)]
      · have h' : ¬ c.1 = ax := fun z => h (decide_eq_true z)
        rw [if_neg h'] at hinv
        refine ⟨_, rfl, _, rfl, _, _, rfl, rfl, ⟨by omega, by omega⟩, rfl, some (.str (axn c.1)), some (.int c.2), si / c.2, fo, co, ?_, hinv⟩
        simp only [Int.natCast_ediv]
        rfl
    · rintro σ H' ⟨rfl, v1, v2, si, fo, co, rfl, hinv⟩
      refine ⟨_, rfl, ?_⟩
      rw [hlen, List.drop_length] at hinv
      simp only [Pm.al, Nat.mul_zero, Nat.add_zero] at hinv
      rw [hinv]
      exact q _ (sl _)
def sp_placein (K : PySem.W.Frag) : Sp := fun vs H Q _ => ∃ (v : V) (r : List Pm.Cut) (s : Nat), vs = [v, .int s] ∧ Dp K H v (pRnd r) ∧ Pm.RndOk r ∧
  ∀ t H', Same H H' → H' t = some (.tup [.int (Pm.al r.reverse s 0), .int (Pm.al r.reverse s 1)]) → Q (.ref t) H'
theorem c_placein {K : PySem.W.Frag} {v : V} {r : List Pm.Cut} {s : Nat} {H : Hp} {Q : VK} {E : XK} (h0 : Dp K H v (pRnd r)) (h1 : Pm.RndOk r) (q : ∀ t H', Same H H' → H' t = some (.tup [.int (Pm.al r.reverse s 0), .int (Pm.al r.reverse s 1)]) → Q (.ref t) H') : sp_placein K [v, .int s] H Q E := ⟨_, _, _, rfl, h0, h1, q⟩
theorem ok_placein {f : Addr} {fd : FuncData} (F : Df K "place_in" "place_in" s_placein [] f fd) (G : PlG K mg C AX) (cAl : Ca P w K mg base 1 "along" (sp_along K) []) : FnOk P w K mg base CX0 2 f fd ["cuts", "sign"] (sp_placein K) := by
  refine dfOk F sc_placein (fun vs H Q E h => ?_) (fun cdv A outer s H vs Q E hr h => ?_)
  · obtain ⟨v, r, s, rfl, _⟩ := h
    rfl
  · obtain ⟨v, r, s0, rfl, hd, hok, q⟩ := h
    refine ⟨_, (pss_one (ps_ret (pe_tup (pa_cons (pe_ca cAl hr (by decide) (by rfl) (pa_cons (pv 0) (pa_cons (pv 1) (pa_cons (pe_globS G.east (by rfl)) pa_nil)))) (pa_cons (pe_ca cAl hr (by decide) (by rfl) (pa_cons (pv 0) (pa_cons (pv 1) (pa_cons (pe_globS G.north (by rfl)) pa_nil)))) pa_nil))))), ?_⟩
    refine ⟨_, rfl, _, rfl, v, r, s0, 0, rfl, by decide, hd, hok, fun H1 s1 => ?_⟩
    refine ⟨_, rfl, _, rfl, v, r, s0, 1, rfl, by decide, hd.up s1, hok, fun H2 s2 => ?_⟩
    refine ⟨by show 2 ≤ sizeLine; decide, fun t ht => ?_⟩
    exact q t _ (s1.trans (s2.trans (same_new ht))) upd_same
/-! Plan.product_of -/
def pParts (rs : List (List Pm.Cut)) : PyData := .list (rs.map fun r => .tuple [.int (Pm.wid r 0), .int (Pm.wid r 1)])
def pRds (rs : List (List Pm.Cut)) : PyData := .list (rs.map pRnd)
theorem pair_at {H : Hp} {v : V} {i j : Int} (h : Dp K H v (.tuple [.int i, .int j])) : ∃ a, v = .ref a ∧ SqT K H a [.int i, .int j] := Dp.tupIE (is := [i, j]) h
def sp_prod (K : PySem.W.Frag) (C : Addr) : Sp := fun vs H Q _ => ∃ (a dx : Addr) (fs : List (Str × V)) (Pt : V) (rs : List (List Pm.Cut)) (m : Nat), vs = [.ref a, .int m] ∧ m < 1000000 ∧ H a = some (.ins C dx fs) ∧ fs.lookup ("own_parts" : Str) = some Pt ∧ Dp K H Pt (pParts rs) ∧ Pm.RdsOk rs ∧
  ∀ t H', Same H H' → H' t = some (.tup [.int (Pm.cnt rs 0 m), .int (Pm.cnt rs 1 m)]) → Q (.ref t) H'
theorem c_prod {K : PySem.W.Frag} {C : Addr} {a dx : Addr} {fs : List (Str × V)} {Pt : V} {rs : List (List Pm.Cut)} {m : Nat} {H : Hp} {Q : VK} {E : XK} (h0 : m < 1000000) (h1 : H a = some (.ins C dx fs)) (h2 : fs.lookup ("own_parts" : Str) = some Pt) (h3 : Dp K H Pt (pParts rs)) (h4 : Pm.RdsOk rs) (q : ∀ t H', Same H H' → H' t = some (.tup [.int (Pm.cnt rs 0 m), .int (Pm.cnt rs 1 m)]) → Q (.ref t) H') : sp_prod K C [.ref a, .int m] H Q E := ⟨_, _, _, _, _, _, rfl, h0, h1, h2, h3, h4, q⟩
theorem ok_prod {f : Addr} {fd : FuncData} (F : Df K "product_of" "Plan.product_of" s_prod [] f fd) (B : Blt mg) (G : PlG K mg C AX) : FnOk P w K mg base CX0 1 f fd ["self", "many"] (sp_prod K C) := by
  refine dfOk F sc_prod (fun vs H Q E h => ?_) (fun cdv A outer s H vs Q E hr h => ?_)
  · obtain ⟨a, dx, fs, Pt, rs, m, rfl, _⟩ := h
    rfl
  · obtain ⟨a, dx, fs, Pt, rs, m, rfl, hm, ea, hl, hd, hok, q⟩ := h
    obtain ⟨b, xs, rfl, hs, ha⟩ := hd.lstE
    have hlen : xs.length = rs.length := by rw [ha.len, List.length_map]
    have l1 := hok.1
    refine ⟨_, (pss_cons (ps_asg (pe_tup (pa_cons pe_int (pa_cons pe_int pa_nil))) (pg_tup' 2 (pgs_cons (pg_name (i := 2) sc_prod.nd rfl (Or.inl rfl)) (pgs_cons (pg_name (i := 3) sc_prod.nd rfl (Or.inl rfl)) pgs_nil))))
  (pss_cons (ps_for PassesOwn.never rfl (pi_range1 (by rfl) B.range (pa_cons (pv 1) pa_nil)) (pg_name (i := 4) sc_prod.nd rfl (Or.inl rfl))
  (pss_cons (ps_set (i := 5) sc_prod.nd rfl (Or.inl rfl) (pe_ix ix_list' (pe_fld (pv 0) rfl) (pe_op op_mod (pv 4) (pe_callB call_len_seq' (by rfl) B.len bt_len (pa_cons (pe_fld (pv 0) rfl) pa_nil))) (fun _ _ => rfl)))
  (pss_one (ps_par (i := 2) (j := 3) (by rfl) sc_prod.nd rfl rfl (by decide) rfl rfl (pa_cons (pe_op op_mul (pv 2) (pe_ix ix_tup' (pv 5) pe_int (fun _ _ => rfl))) (pa_cons (pe_op op_mul (pv 3) (pe_ix ix_tup' (pv 5) pe_int (fun _ _ => rfl))) pa_nil)) (by rfl)))))
  (pss_one (ps_ret (pe_tup (pa_cons (pv 2) (pa_cons (pv 3) pa_nil))))))), ?_⟩
    refine ⟨by show 2 ≤ sizeLine; decide, fun l0 hl0 => ⟨l0, _, rfl, SqT.of upd_same, rfl, _, _, rfl, _, _, rfl, rfl, ?_⟩⟩
    have s0 := same_new (o := .tup [.int 1, .int 1]) hl0
    have ea := s0 _ _ ea
    have hs := s0.seq hs
    have ha := ha.up s0
    have q := fun t H' (s : Same _ H') => q t H' (s0.trans s)
    generalize upd H l0 (.tup [.int 1, .int 1]) = H at *
    refine ⟨_, rfl, m, rfl, by omega, by omega, for_range (lo := 0) (n := m) (fun i σ H' => H' = H ∧ ∃ v1 v2, σ = [some (.ref a), some (.int m), some (.int (Pm.cnt rs 0 i)), some (.int (Pm.cnt rs 1 i)), v1, v2]) ⟨rfl, _, _, rfl⟩ ?_ ?_⟩
    · rintro i σ H' hi ⟨rfl, v1, v2, rfl⟩
      rw [show (0 : Int) + (i : Int) = (i : Int) by omega]
      obtain ⟨x, hx, hdx⟩ := ha.got (i := i % rs.length) (by rw [List.getElem?_map, Pm.rnd_get l1 i]; rfl)
      obtain ⟨t, rfl, ht⟩ := pair_at hdx
      have w := hok.W32 i
      refine ⟨_, rfl, a, C, dx, fs, _, rfl, ea, G.I.cl, G.nP, hl, _, rfl, _, rfl, a, C, dx, fs, _, rfl, ea, G.I.cl, G.nP, hl, b, _, rfl, .inl hs, _, _, rfl, rfl, by show (0 : Int) < (xs.length : Nat); omega, ?_⟩
      refine ⟨b, xs, _, .ref t, rfl, rfl, hs, ?_, ?_⟩
      · show atI xs ((i : Int) % ((xs.length : Nat) : Int)) = _
        rw [hlen, ← Int.natCast_emod]
        exact atI_nat hx
      refine ⟨_, rfl, _, rfl, t, _, _, _, rfl, rfl, ht, rfl, _, _, rfl, rfl, .inr ⟨?_, ?_⟩, ?_⟩
      · have : (0 : Int) ≤ (Pm.wid (Pm.rnd rs i) 0 : Nat) := by omega
        omega
      · have : (Pm.wid (Pm.rnd rs i) 0 : Nat) ≤ 32 := w.1
        omega
      refine ⟨_, rfl, _, rfl, t, _, _, _, rfl, rfl, ht, rfl, _, _, rfl, rfl, .inr ⟨?_, ?_⟩, ?_⟩
      · have : (0 : Int) ≤ (Pm.wid (Pm.rnd rs i) 1 : Nat) := by omega
        omega
      · have : (Pm.wid (Pm.rnd rs i) 1 : Nat) ≤ 32 := w.2
        omega
      refine ⟨_, _, rfl, rfl, some (.int i), some (.ref t), ?_⟩
      simp only [Pm.cnt, Pm.W, Int.natCast_mul]
      rfl
    · rintro σ H' ⟨rfl, v1, v2, rfl⟩
      refine ⟨_, rfl, _, rfl, by show 2 ≤ sizeLine; decide, fun t ht => ?_⟩
      exact q t _ (same_new ht) upd_same
end
end T
set_option Elab.async false
set_option maxRecDepth 100000
set_option maxHeartbeats 4000000
namespace T
open PySem L2 Mv
section
variable {P : Program} {w : World} {K : PySem.W.Frag} {mg : Str → Option Value} {base : Heap} {C AX : Addr}
/-- a Plan of the rounds rs -/
def plF (R Pt : V) (g : Int) : List (Str × V) := [("own_rounds", R), ("own_parts", Pt), ("own_growth", .int g)]
structure PlanAt (K : PySem.W.Frag) (C : Addr) (H : Hp) (v : V) (rs : List (List Pm.Cut)) : Prop where
  ex : ∃ a dx R Pt, v = .ref a ∧ H a = some (.ins C dx (plF R Pt (Pm.cnt rs 0 rs.length))) ∧ Dp K H R (pRds rs) ∧ Dp K H Pt (pParts rs)
  ok : Pm.RdsOk rs
theorem PlanAt.same {H H' : Hp} {v : V} {rs : List (List Pm.Cut)} (h : PlanAt K C H v rs) (s : Same H H') : PlanAt K C H' v rs := by
  obtain ⟨a, dx, R, Pt, e, ea, h1, h2⟩ := h.ex
  exact ⟨⟨a, dx, R, Pt, e, s _ _ ea, h1.up s, h2.up s⟩, h.ok⟩
/-- all is kept but the object at x -/
def sp_init (K : PySem.W.Frag) (C : Addr) : Sp := fun vs H Q _ => ∃ (x dx : Addr) (v : V) (brs : List (Bool × List Pm.Cut)), vs = [.ref x, v] ∧ H x = some (.ins C dx []) ∧ Dp K H v (.tuple (pPass brs)) ∧ Pm.RdsOk (brs.map Prod.snd) ∧
  ∀ H', Bu x H H' → PlanAt K C H' (.ref x) (brs.map Prod.snd) → Q .non H'
theorem c_init {K : PySem.W.Frag} {C : Addr} {x dx : Addr} {v : V} {brs : List (Bool × List Pm.Cut)} {H : Hp} {Q : VK} {E : XK} (h0 : H x = some (.ins C dx [])) (h1 : Dp K H v (.tuple (pPass brs))) (h2 : Pm.RdsOk (brs.map Prod.snd)) (q : ∀ H', Bu x H H' → PlanAt K C H' (.ref x) (brs.map Prod.snd) → Q .non H') : sp_init K C [.ref x, v] H Q E := ⟨_, _, _, _, rfl, h0, h1, h2, q⟩
theorem Bu.insK {x : Addr} {H H' : Hp} {dx : Addr} {fs : List (Str × V)} (b : Bu x H H') (hx : H x = some (.ins C dx fs)) {a : Addr} {xs : List V} (h : SqL K H a xs) : SqL K H' a xs := by
  rcases h with (h | ⟨o, h⟩) | h
  · exact .inl (.inl (b a _ (fun z => by rw [z, hx] at h; cases h) h))
  · exact .inl (.inr ⟨o, b a _ (fun z => by rw [z, hx] at h; cases h) h⟩)
  · exact .inr h
theorem Bu.insT {x : Addr} {H H' : Hp} {dx : Addr} {fs : List (Str × V)} (b : Bu x H H') (hx : H x = some (.ins C dx fs)) {a : Addr} {xs : List V} (h : SqT K H a xs) : SqT K H' a xs := by
  rcases h with (h | ⟨o, h⟩) | h
  · exact .inl (.inl (b a _ (fun z => by rw [z, hx] at h; cases h) h))
  · exact .inl (.inr ⟨o, b a _ (fun z => by rw [z, hx] at h; cases h) h⟩)
  · exact .inr h
mutual
theorem Dp.ins' {x : Addr} {H H' : Hp} {dx : Addr} {fs : List (Str × V)} (b : Bu x H H') (hx : H x = some (.ins C dx fs)) : ∀ (d : PyData) (v : V), Dp K H v d → Dp K H' v d
  | .none, _, h => by cases h; exact .non
  | .bool b, _, h => by cases h; exact .bl b
  | .int i, _, h => by cases h; exact .int i
  | .str x, _, h => by cases h; exact .str x
  | .list ds, _, h => by
    cases h with
    | lst hs ha => exact .lst (Bu.insK b hx hs) (DpAll.ins' b hx ds _ ha)
  | .tuple ds, _, h => by
    cases h with
    | tup hs ha => exact .tup (Bu.insT b hx hs) (DpAll.ins' b hx ds _ ha)
  | .dict _, _, h => by cases h
theorem DpAll.ins' {x : Addr} {H H' : Hp} {dx : Addr} {fs : List (Str × V)} (b : Bu x H H') (hx : H x = some (.ins C dx fs)) : ∀ (ds : List PyData) (vs : List V), DpAll K H vs ds → DpAll K H' vs ds
  | [], _, h => by cases h; exact .nil
  | d :: ds, _, h => by
    cases h with
    | cons h1 h2 => exact .cons (Dp.ins' b hx d _ h1) (DpAll.ins' b hx ds _ h2)
end
theorem ok_init {f : Addr} {fd : FuncData} (F : Df K "__init__" "Plan.__init__" s_init [] f fd) (B : Blt mg) (G : PlG K mg C AX) (cWR : Ca P w K mg base 5 "want_rounds" (sp_wantrounds K) []) (c1 : Ca P w K mg base 1 "parts_along" (sp_along1 K) []) (cPr : Me P w K mg base 1 C "product_of" (sp_prod K C) []) :
    FnR P w K mg base CX0 6 f (fun vs H Q E => ∃ ws rest, vs = ws ++ rest ∧ ws.length = 1 ∧ rest.length ≤ sizeLine ∧ ∀ p, H p = Option.none → sp_init K C (ws ++ [V.ref p]) (upd H p (.tup rest)) Q E) := by
  refine dfStar (ps := ["self"]) (pv := "rounds") F sc_init (fun kV doc pm an cdv ct => StX.bind_star1 (B := fun us => bindArgs (PySem.W.fnOf "__init__" "Plan.__init__" (defArgs s_init) (defBody s_init) (defScope s_init) .none kV doc pm an cdv ct) ⟨us, []⟩) (fun a => rfl) (fun a r rs => rfl)) (fun cdv A outer s H vs Q E hr h => ?_)
  obtain ⟨x, dx, v, brs, rfl, ex, hd, hok, q⟩ := h
  obtain ⟨a, xs, rfl, hs, ha⟩ := hd.tupE
  have hlen : xs.length = brs.length := by rw [ha.len]; simp [pPass]
  have l1 : 1 ≤ brs.length := by have := hok.1; simpa using this
  have l2 : brs.length ≤ 3 := by have := hok.2.1; simpa using this
  obtain ⟨rs, ers⟩ : ∃ rs, brs.map Prod.snd = rs := ⟨_, rfl⟩
  have lrs : rs.length = brs.length := by rw [← ers]; simp
  rw [ers] at hok
  refine ⟨_, (pss_cons (ps_expr (pe_ca cWR hr (by decide) (by rfl) (pa_cons (pv 1) pa_nil)))
  (pss_cons (ps_fld (pv 0) (pe_lc (own := [("cuts", 2)]) (by rfl) sc_init.nd (pi_seq (pv 1)) (blkOk_by (own := [("cuts", 2)]) (N := ["self", "rounds", "cuts", "columns", "rows"]) (sc := defScope s_init) (by decide +kernel)) (fun _ _ _ _ _ => (pg_name (i := 2) sc_init.nd rfl (Or.inl rfl))) (fun _ _ _ _ _ => pts_nil) (fun _ _ _ _ _ => (pe_callTy call_list_of' (by rfl) B.list bt_list (pa_cons (pv 2) pa_nil)))) rfl)
  (pss_cons (ps_fld (pv 0) (pe_lc (own := [("cuts", 2)]) (by rfl) sc_init.nd (pi_list (pe_fld (pv 0) rfl)) (blkOk_by (own := [("cuts", 2)]) (N := ["self", "rounds", "cuts", "columns", "rows"]) (sc := defScope s_init) (by decide +kernel)) (fun _ _ _ _ _ => (pg_name (i := 2) sc_init.nd rfl (Or.inl rfl))) (fun _ _ _ _ _ => pts_nil) (fun _ _ _ _ _ => (pe_tup (pa_cons (pe_ca c1 hr (by decide) (by rfl) (pa_cons (pv 2) (pa_cons (pe_globS G.east (by rfl)) pa_nil))) (pa_cons (pe_ca c1 hr (by decide) (by rfl) (pa_cons (pv 2) (pa_cons (pe_globS G.north (by rfl)) pa_nil))) pa_nil))))) rfl)
  (pss_cons (ps_asg (pe_me cPr hr (by decide) (pv 0) (pa_cons (pe_callB call_len_seq' (by rfl) B.len bt_len (pa_cons (pv 1) pa_nil)) pa_nil)) (pg_tup' 2 (pgs_cons (pg_name (i := 3) sc_init.nd rfl (Or.inl rfl)) (pgs_cons (pg_name (i := 4) sc_init.nd rfl (Or.inl rfl)) pgs_nil))))
  (pss_cons (ps_if (pt_cmpR op_ne (pv 3) (pv 4) (nomark _))
  pss_never
  pss_nil)
  (pss_one (ps_fld (pv 0) (pv 3) rfl))))))), ?_⟩
  refine ⟨_, rfl, _, brs, rfl, hd, ers ▸ hok, fun H1 s1 => ?_⟩
  have hs1 := Same.tup s1 hs
  have ha1 := ha.up s1
  refine ⟨_, rfl, false, a, xs, rfl, hs1, fun D hD => lc_ll (K := K) walk_K (rs.map fun r => r.map pCut) (by simp; omega) (by omega) (fun e he => ?_) hD (fun H' s' => Same.sqk (b := false) s' hs1) ?_ ?_ gName_mono⟩
  · obtain ⟨r, _, rfl⟩ := List.mem_map.mp he
    exact NLs.map _ NL.pCut r
  · rintro i e y H2 _ Q2 hi he s2 ⟨rfl, hy⟩ hq
    refine ⟨rfl, ?_⟩
    obtain ⟨d, hd1, hd2⟩ := (ha1.up s2).get hy
    unfold pPass at hd1
    rw [List.getElem?_map] at hd1
    obtain ⟨c, hc1, rfl⟩ := Option.map_eq_some_iff.mp hd1
    have he' : e = c.2.map pCut := by
      rw [← ers, List.map_map, List.getElem?_map, hc1] at he
      exact (Option.some.inj he).symm
    subst he'
    obtain ⟨b, zs, rfl, hz, hza⟩ := hd2.seqE
    exact ⟨_, rfl, b, zs, rfl, sqK_or hz, fun l hl => hq l zs _ (same_new hl) hl upd_same (hza.up (same_new hl))⟩
  · rintro H2 ys s2 eD hall
    have ex2 := s2 _ _ (s1 _ _ ex)
    refine ⟨_, rfl, x, C, dx, [], rfl, ex2, G.I.cl, G.nR, by decide, ?_⟩
    have hR : Dp K H2 (.ref D) (pRds rs) := by
      refine .lst (SqL.of eD) ?_
      have : rs.map pRnd = (rs.map fun r => r.map pCut).map PyData.list := by rw [List.map_map]; rfl
      rw [this]
      exact hall
    have b3 : Bu x H2 (upd H2 x (.ins C dx [("own_rounds", .ref D)])) := Bu.set
    have hR3 := Dp.ins' b3 ex2 _ _ hR
    have hs3 := Bu.insT b3 ex2 (Same.tup s2 hs1)
    have bb : Bu x H (upd H2 x (.ins C dx [("own_rounds", .ref D)])) := (Bu.of (s1.trans s2) x).trans b3
    show tSeq _ _ _ _ (upd H2 x (.ins C dx [("own_rounds", .ref D)]))
    have ex3 : upd H2 x (.ins C dx [("own_rounds", .ref D)]) x = some (.ins C dx [("own_rounds", .ref D)]) := upd_same
    generalize upd H2 x (.ins C dx [("own_rounds", .ref D)]) = H3 at *
    obtain ⟨_, rsx, eD', hsR, haR⟩ := hR3.lstE
    cases eD'
    have hlR : rsx.length = rs.length := by rw [haR.len, List.length_map]
    refine ⟨_, rfl, x, C, dx, _, .ref D, rfl, ex3, G.I.cl, G.nR, rfl, D, rfl, ⟨_, hsR⟩, fun D2 hD2 => lc_nl (K := K) (walk_list (xs := rsx)) (rs.map fun r => .tuple [.int (Pm.wid r 0), .int (Pm.wid r 1)]) (by simp; omega) (by omega) (NLs.map _ (fun _ => rfl) rs) hD2 (fun H' s' => s'.seq hsR) ?_ ?_ gName_mono⟩
    · rintro i e y H4 _ Q2 hi he s4 ⟨rfl, hy⟩ hq
      refine ⟨rfl, ?_⟩
      obtain ⟨d, hd1, hd2⟩ := (haR.up s4).get hy
      rw [List.getElem?_map] at hd1 he
      obtain ⟨r, hr1, rfl⟩ := Option.map_eq_some_iff.mp hd1
      rw [hr1] at he
      obtain rfl := Option.some.inj he
      have hro := hok.2.2.1 r (List.mem_of_getElem? hr1)
      refine ⟨_, rfl, y, true, r, 0, rfl, by decide, hd2, hro, _, rfl, y, true, r, 1, rfl, by decide, hd2, hro, by show 2 ≤ sizeLine; decide, fun t ht => ?_⟩
      exact hq _ _ (same_new ht) (Dp.tupI (is := [_, _]) (SqT.of upd_same))
    · rintro H4 ys4 s4 eD4 hall4
      have ex4 := s4 _ _ ex3
      refine ⟨_, rfl, x, C, dx, _, rfl, ex4, G.I.cl, G.nP, by show 1 < 1000; decide, ?_⟩
      have hP4 : Dp K H4 (.ref D2) (pParts rs) := .lst (SqL.of eD4) hall4
      have b5 : Bu x H4 (upd H4 x (.ins C dx [("own_rounds", .ref D), ("own_parts", .ref D2)])) := Bu.set
      have hP5 := Dp.ins' b5 ex4 _ _ hP4
      have hR5 := Dp.ins' b5 ex4 _ _ (hR3.up s4)
      have hs5 := Bu.insT b5 ex4 (Same.tup s4 hs3)
      have bb5 := bb.trans ((Bu.of s4 x).trans b5)
      show tSeq _ _ _ _ (upd H4 x (.ins C dx [("own_rounds", .ref D), ("own_parts", .ref D2)]))
      have ex5 : upd H4 x (.ins C dx [("own_rounds", .ref D), ("own_parts", .ref D2)]) x = some (.ins C dx [("own_rounds", .ref D), ("own_parts", .ref D2)]) := upd_same
      generalize upd H4 x (.ins C dx [("own_rounds", .ref D), ("own_parts", .ref D2)]) = H5 at *
      refine ⟨_, rfl, x, dx, _, rfl, ex5, rfl, _, rfl, a, xs, rfl, .inr hs5, x, dx, _, .ref D2, rs, xs.length, rfl, by omega, ex5, rfl, hP5, hok, fun t H6 s6 et => ?_⟩
      refine ⟨t, _, rfl, SqT.of et, rfl, _, _, rfl, _, _, rfl, rfl, ?_⟩
      have bal := hok.bal
      rw [lrs, ← hlen] at bal
      refine ⟨_, rfl, _, rfl, rfl, _, rfl, ?_⟩
      rw [show (!decide (V.int (Pm.cnt rs 0 xs.length) = V.int (Pm.cnt rs 1 xs.length))) = false by rw [bal]; simp]
      refine iteF ?_
      have ex6 := s6 _ _ ex5
      refine ⟨_, rfl, _, rfl, x, C, dx, _, rfl, ex6, G.I.cl, G.nG, by show 2 < 1000; decide, ?_⟩
      have b7 : Bu x H6 (upd H6 x (.ins C dx (plF (.ref D) (.ref D2) (Pm.cnt rs 0 xs.length)))) := Bu.set
      refine q _ (bb5.trans ((Bu.of s6 x).trans b7)) ?_
      rw [ers]
      refine ⟨⟨x, dx, .ref D, .ref D2, rfl, ?_, Dp.ins' b7 ex6 _ _ (hR5.up s6), Dp.ins' b7 ex6 _ _ (hP5.up s6)⟩, hok⟩
      rw [lrs, ← hlen]
      exact upd_same
/-! making a plan -/
def spMk (K : PySem.W.Frag) (C : Addr) : Sp := fun vs H Q E => ∃ ws rest, vs = ws ++ rest ∧ ws.length = 1 ∧ rest.length ≤ sizeLine ∧ ∀ p, H p = Option.none → sp_init K C (ws ++ [V.ref p]) (upd H p (.tup rest)) Q E
theorem mk_plan {H : Hp} {vs : List V} {brs : List (Bool × List Pm.Cut)} {Q : VK} (ha : DpAll K H vs (pPass brs)) (ok : Pm.RdsOk (brs.map Prod.snd)) (q : ∀ u H', Same H H' → PlanAt K C H' u (brs.map Prod.snd) → Q u H') :
    ∀ x dx, H x = none → H dx = none → dx ≠ x → spMk K C (V.ref x :: vs) (upd (upd H dx (.own x)) x (.ins C dx [])) (fun v H2 => v = .non ∧ Q (.ref x) H2) E0 := by
  intro x dx hx hdx hne
  have hlen : vs.length ≤ 3 := by
    have := ok.2.1
    rw [ha.len]
    simpa [pPass] using this
  refine ⟨[.ref x], vs, rfl, rfl, by unfold sizeLine; omega, fun p hp => ?_⟩
  have s1 : Same H (upd (upd H dx (.own x)) x (.ins C dx [])) := same_make hx hdx hne
  have s2 : ∀ o, Same H (upd (upd (upd H dx (.own x)) x (.ins C dx [])) p o) := fun o => s1.trans (same_new hp)
  have hpx : x ≠ p := fun z => by rw [← z, upd_same] at hp; cases hp
  refine ⟨x, dx, .ref p, brs, rfl, by rw [upd_ne hpx, upd_same], .tup (SqT.of upd_same) (ha.up (s2 _)), ok, fun H' b pa => ⟨rfl, q _ _ (fun c o e => ?_) pa⟩⟩
  exact b c o (fun z => by rw [z, hx] at e; cases e) (s2 _ c o e)
end
end T
set_option Elab.async false
set_option maxRecDepth 100000
set_option maxHeartbeats 4000000
namespace T
open PySem L2 Mv
abbrev s_plen : Stmt := inClass (top 32) 16
theorem sc_plen : FnScope ["self"] ["self"] (defScope s_plen) := ⟨rfl, rfl, rfl, by decide +kernel, rfl, by decide +kernel, by decide +kernel⟩
abbrev s_peq : Stmt := inClass (top 32) 17
theorem sc_peq : FnScope ["self", "other"] ["self", "other"] (defScope s_peq) := ⟨rfl, rfl, rfl, by decide +kernel, rfl, by decide +kernel, by decide +kernel⟩
abbrev s_wantphase : Stmt := top 33
theorem sc_wantphase : FnScope ["plan", "value"] ["plan", "value"] (defScope s_wantphase) := ⟨rfl, rfl, rfl, by decide +kernel, rfl, by decide +kernel, by decide +kernel⟩
abbrev s_parts : Stmt := inClass (top 32) 11
theorem sc_parts : FnScope ["self", "phase"] ["self", "phase"] (defScope s_parts) := ⟨rfl, rfl, rfl, by decide +kernel, rfl, by decide +kernel, by decide +kernel⟩
abbrev s_signs : Stmt := inClass (top 32) 10
theorem sc_signs : FnScope ["self", "phase", "columns", "rows"] ["self", "phase"] (defScope s_signs) := ⟨rfl, rfl, rfl, by decide +kernel, rfl, by decide +kernel, by decide +kernel⟩
abbrev s_wantsign : Stmt := top 34
theorem sc_wantsign : FnScope ["plan", "phase", "value"] ["plan", "phase", "value"] (defScope s_wantsign) := ⟨rfl, rfl, rfl, by decide +kernel, rfl, by decide +kernel, by decide +kernel⟩
abbrev s_placeof : Stmt := inClass (top 32) 12
theorem sc_placeof : FnScope ["self", "phase", "sign"] ["self", "phase", "sign"] (defScope s_placeof) := ⟨rfl, rfl, rfl, by decide +kernel, rfl, by decide +kernel, by decide +kernel⟩
section
variable {P : Program} {w : World} {K : PySem.W.Frag} {mg : Str → Option Value} {base : Heap} {C AX : Addr}
/-! names -/
def dNm (ns : List Nat) : PyData := .tuple (ns.map fun (n : Nat) => PyData.int n)
def vNm (ns : List Nat) : List V := ns.map fun (n : Nat) => V.int n
theorem dNm_eq (ns : List Nat) : dNm ns = .tuple ((ns.map Int.ofNat).map .int) := by unfold dNm; rw [List.map_map]; rfl
theorem vNm_eq (ns : List Nat) : vNm ns = (ns.map Int.ofNat).map V.int := by unfold vNm; rw [List.map_map]; rfl
theorem nmE {H : Hp} {v : V} {ns : List Nat} (h : Dp K H v (dNm ns)) : ∃ a, v = .ref a ∧ SqT K H a (vNm ns) := by
  rw [dNm_eq] at h
  rw [vNm_eq]
  exact h.tupIE
theorem nmI {H : Hp} {a : Addr} {ns : List Nat} (h : SqT K H a (vNm ns)) : Dp K H (.ref a) (dNm ns) := by
  rw [vNm_eq] at h
  rw [dNm_eq]
  exact Dp.tupI h
theorem NL.nm (ns : List Nat) : NL (dNm ns) = true := by rw [dNm_eq]; exact NL.ints _
/-- a name of the rounds rs -/
def NmOk (rs : List (List Pm.Cut)) (ns : List Nat) : Prop := ∀ k, k < ns.length → ns.getD k 0 < Pm.S rs k
/-! __len__, __eq__ -/
def sp_plen (K : PySem.W.Frag) (C : Addr) : Sp := fun vs H Q _ => ∃ (v : V) (rs : List (List Pm.Cut)), vs = [v] ∧ PlanAt K C H v rs ∧ Q (.int (rs.length : Nat)) H
theorem c_plen {K : PySem.W.Frag} {C : Addr} {v : V} {rs : List (List Pm.Cut)} {H : Hp} {Q : VK} {E : XK} (h0 : PlanAt K C H v rs) (q : Q (.int (rs.length : Nat)) H) : sp_plen K C [v] H Q E := ⟨_, _, rfl, h0, q⟩
theorem ok_plen {f : Addr} {fd : FuncData} (F : Df K "__len__" "Plan.__len__" s_plen [] f fd) (B : Blt mg) (G : PlG K mg C AX) : FnOk P w K mg base CX0 1 f fd ["self"] (sp_plen K C) := by
  refine dfOk F sc_plen (fun vs H Q E h => ?_) (fun cdv A outer s H vs Q E hr h => ?_)
  · obtain ⟨v, rs, rfl, _⟩ := h
    rfl
  · obtain ⟨v, rs, rfl, hp, q⟩ := h
    obtain ⟨a, dx, R, Pt, rfl, ea, hR, hP⟩ := hp.ex
    obtain ⟨b, xs, rfl, hs, ha⟩ := hR.lstE
    have hlen : xs.length = rs.length := by rw [ha.len, List.length_map]
    refine ⟨_, (pss_one (ps_ret (pe_callB call_len_seq' (by rfl) B.len bt_len (pa_cons (pe_fld (pv 0) rfl) pa_nil)))), ?_⟩
    refine ⟨_, rfl, a, C, dx, _, _, rfl, ea, G.I.cl, G.nR, rfl, b, xs, rfl, .inl hs, ?_⟩
    rw [hlen]
    exact q
/-- what len(plan) reads -/
theorem len_plan {H : Hp} {v : V} {rs : List (List Pm.Cut)} {Q : VK} (hp : PlanAt K C H v rs) (q : Q (.int (rs.length : Nat)) H) : rLenO C (sp_plen K C) [v] H Q := by
  obtain ⟨a, dx, R, Pt, rfl, ea, _⟩ := hp.ex
  have := hp.ok.2.1
  exact ⟨a, dx, _, rfl, ea, _, rs, rfl, hp, _, rfl, by omega, by omega, q⟩
theorem eqv_cut {c d : Pm.Cut} (hc : Pm.CutOk c) (hd : Pm.CutOk d) : PyData.eqv (pCut c) (pCut d) = decide (c = d) := by
  obtain ⟨a, p⟩ := c
  obtain ⟨b, q⟩ := d
  have h1 : a = 0 ∨ a = 1 := by have := hc.1; simp at this; omega
  have h2 : b = 0 ∨ b = 1 := by have := hd.1; simp at this; omega
  have hn : ∀ x y : Nat, ((x : Int) == (y : Int)) = decide (x = y) := fun x y => by
    rw [Bool.eq_iff_iff]; simp only [beq_iff_eq, decide_eq_true_eq]; omega
  have ne1 : (("east" : Str) == ("north" : Str)) = false := by decide
  have ne2 : (("north" : Str) == ("east" : Str)) = false := by decide
  simp only [pCut, PyData.eqv, PyData.eqvAll, hn, Bool.and_true]
  rcases h1 with rfl | rfl <;> rcases h2 with rfl | rfl <;> simp [axn, ne1, ne2, Prod.ext_iff]
theorem eqv_map {α : Type} [DecidableEq α] (f : α → PyData) : ∀ (xs ys : List α), (∀ x ∈ xs, ∀ y ∈ ys, PyData.eqv (f x) (f y) = decide (x = y)) → PyData.eqvAll (xs.map f) (ys.map f) = decide (xs = ys)
  | [], [], _ => rfl
  | [], y :: ys, _ => by simp [PyData.eqvAll]
  | x :: xs, [], _ => by simp [PyData.eqvAll]
  | x :: xs, y :: ys, h => by
    simp only [List.map_cons, PyData.eqvAll]
    rw [h x (List.mem_cons_self ..) y (List.mem_cons_self ..), eqv_map f xs ys fun a ha b hb => h a (List.mem_cons_of_mem _ ha) b (List.mem_cons_of_mem _ hb)]
    rw [Bool.eq_iff_iff]
    simp
theorem eqv_rds {rs qs : List (List Pm.Cut)} (h1 : Pm.RdsOk rs) (h2 : Pm.RdsOk qs) : PyData.eqv (pRds rs) (pRds qs) = decide (rs = qs) := by
  unfold pRds
  rw [PyData.eqv]
  refine eqv_map pRnd rs qs fun r hr q hq => ?_
  unfold pRnd
  rw [PyData.eqv]
  exact eqv_map pCut r q fun c hc d hd => eqv_cut ((h1.2.2.1 r hr).2.2.1 c hc) ((h2.2.2.1 q hq).2.2.1 d hd)
theorem canLay_all {ds : List PyData} : (∀ d ∈ ds, d.canLay0 = true) → PyData.canLayAll0 ds = true := by
  induction ds with
  | nil => intro _; rfl
  | cons d ds ih =>
    intro h
    have h1 := h d (List.mem_cons_self ..)
    have h2 := ih fun x hx => h x (List.mem_cons_of_mem _ hx)
    simp [PyData.canLayAll0, h1, h2]
theorem depth_all {n : Nat} : ∀ {ds : List PyData}, (∀ d ∈ ds, d.depth ≤ n) → PyData.depthAll ds ≤ n
  | [], _ => by simp [PyData.depthAll]
  | d :: ds, h => by
    have h1 := h d (List.mem_cons_self ..)
    have h2 := depth_all (ds := ds) fun x hx => h x (List.mem_cons_of_mem _ hx)
    simp only [PyData.depthAll]
    omega
theorem shaped_cut (c : Pm.Cut) : (pCut c).canLay0 = true ∧ (pCut c).depth ≤ 1 := by
  obtain ⟨a, p⟩ := c
  constructor
  · unfold pCut axn
    simp only
    split
    · simp only [PyData.canLay0, PyData.canLayAll0, Bool.and_true]
      decide +kernel
    · simp only [PyData.canLay0, PyData.canLayAll0, Bool.and_true]
      decide +kernel
  · unfold pCut axn
    simp only
    split <;> simp [PyData.depth, PyData.depthAll]
theorem shaped_rds (rs : List (List Pm.Cut)) : SeqAt.shaped (pRds rs) = true := by
  have h1 : ∀ d ∈ rs.map pRnd, d.canLay0 = true ∧ d.depth ≤ 2 := fun d hd => by
    obtain ⟨r, _, rfl⟩ := List.mem_map.mp hd
    have h2 : ∀ e ∈ r.map pCut, e.canLay0 = true ∧ e.depth ≤ 1 := fun e he => by
      obtain ⟨c, _, rfl⟩ := List.mem_map.mp he
      exact shaped_cut c
    unfold pRnd
    constructor
    · rw [PyData.canLay0]
      exact canLay_all fun e he => (h2 e he).1
    · rw [PyData.depth]
      exact Nat.succ_le_succ (depth_all fun e he => (h2 e he).2)
  refine shaped_of ?_ ?_
  · unfold pRds
    rw [PyData.canLay0]
    exact canLay_all fun e he => (h1 e he).1
  · unfold pRds
    rw [PyData.depth]
    have := depth_all (n := 2) fun e he => (h1 e he).2
    omega
def sp_peq (K : PySem.W.Frag) (C : Addr) : Sp := fun vs H Q _ => ∃ (v u : V) (rs qs : List (List Pm.Cut)), vs = [v, u] ∧ PlanAt K C H v rs ∧ PlanAt K C H u qs ∧ Q (.bl (decide (rs = qs))) H
theorem c_peq {K : PySem.W.Frag} {C : Addr} {v u : V} {rs qs : List (List Pm.Cut)} {H : Hp} {Q : VK} {E : XK} (h0 : PlanAt K C H v rs) (h1 : PlanAt K C H u qs) (q : Q (.bl (decide (rs = qs))) H) : sp_peq K C [v, u] H Q E := ⟨_, _, _, _, rfl, h0, h1, q⟩
theorem ok_peq {f : Addr} {fd : FuncData} (F : Df K "__eq__" "Plan.__eq__" s_peq [] f fd) (B : Blt mg) (G : PlG K mg C AX) : FnOk P w K mg base CX0 1 f fd ["self", "other"] (sp_peq K C) := by
  refine dfOk F sc_peq (fun vs H Q E h => ?_) (fun cdv A outer s H vs Q E hr h => ?_)
  · obtain ⟨v, u, rs, qs, rfl, _⟩ := h
    rfl
  · obtain ⟨v, u, rs, qs, rfl, hp, hq, q⟩ := h
    obtain ⟨a, dx, R, Pt, rfl, ea, hR, hP⟩ := hp.ex
    obtain ⟨b, dy, R', Pt', rfl, eb, hR', hP'⟩ := hq.ex
    refine ⟨_, (pss_one (ps_ret (pe_and (pe_callB call_isi' (by rfl) B.isinstance bt_isinstance (pa_cons (pv 1) (pa_cons (pe_glob (by rfl) G.mgC (v := .ref C) rfl) pa_nil))) (pe_one (pe_cmpR (op_eqD' hr.units) (pe_fld (pv 0) rfl) (pe_fld (pv 1) rfl) (nomark _)))))), ?_⟩
    refine ⟨_, rfl, _, _, .ref C, .ref C, true, rfl, .own C, G.I.ty eb, G.I.me, true, rfl, iteT ?_⟩
    refine ⟨_, rfl, a, C, dx, _, _, rfl, ea, G.I.cl, G.nR, rfl, _, rfl, b, C, dy, _, _, rfl, eb, G.I.cl, G.nR, rfl, _, _, hR, hR', shaped_rds rs, shaped_rds qs, ?_⟩
    rw [eqv_rds hp.ok hq.ok]
    exact q
/-! want_plan, want_phase, parts, signs -/
def sp_wantphase (K : PySem.W.Frag) (C : Addr) : Sp := fun vs H Q _ => ∃ (v : V) (rs : List (List Pm.Cut)) (ph : Nat), vs = [v, .int ph] ∧ PlanAt K C H v rs ∧ ph < rs.length ∧ Q .non H
theorem c_wantphase {K : PySem.W.Frag} {C : Addr} {v : V} {rs : List (List Pm.Cut)} {ph : Nat} {H : Hp} {Q : VK} {E : XK} (h0 : PlanAt K C H v rs) (h1 : ph < rs.length) (q : Q .non H) : sp_wantphase K C [v, .int ph] H Q E := ⟨_, _, _, rfl, h0, h1, q⟩
theorem ok_wantphase {f : Addr} {fd : FuncData} (F : Df K "want_phase" "want_phase" s_wantphase [] f fd) (B : Blt mg) (cCo : Ca P w K mg base 2 "is_count" (sp_count K) []) (cLen : Op2 P w K mg base 1 C "__len__" (sp_plen K C)) : FnOk P w K mg base CX0 3 f fd ["plan", "value"] (sp_wantphase K C) := by
  refine dfOk F sc_wantphase (fun vs H Q E h => ?_) (fun cdv A outer s H vs Q E hr h => ?_)
  · obtain ⟨v, rs, ph, rfl, _⟩ := h
    rfl
  · obtain ⟨v, rs, ph, rfl, hp, hph, q⟩ := h
    refine ⟨_, (pss_one (ps_if (PW.pt (pw_or (pt_not (pt_val (pe_ca cCo hr (by decide) (by rfl) (pa_cons (pv 1) pa_nil)))) (pw_or1 (pt_cmpR op_ge (pv 1) (pe_callB (call_lenO' cLen hr (by decide)) (by rfl) B.len bt_len (pa_cons (pv 0) pa_nil)) (nomark _)))))
  pss_never
  pss_nil)), ?_⟩
    refine ⟨_, rfl, tnil (count_int (by omega) ⟨_, rfl, iteF ?_⟩)⟩
    refine ⟨_, rfl, _, rfl, tnil (len_plan hp ⟨_, _, rfl, rfl, _, rfl, ?_⟩)⟩
    rw [decide_eq_false (show ¬ ((rs.length : Nat) : Int) ≤ (ph : Int) by omega)]
    exact iteF q
theorem rs_get {rs : List (List Pm.Cut)} {ph : Nat} (h : ph < rs.length) : rs[ph]? = some (Pm.rnd rs ph) := by
  have := Pm.rnd_get (by omega : 1 ≤ rs.length) ph
  rwa [Nat.mod_eq_of_lt h] at this
def sp_parts (K : PySem.W.Frag) (C : Addr) : Sp := fun vs H Q _ => ∃ (v : V) (rs : List (List Pm.Cut)) (ph : Nat), vs = [v, .int ph] ∧ PlanAt K C H v rs ∧ ph < rs.length ∧ ∀ t, SqT K H t [.int (Pm.W rs 0 ph), .int (Pm.W rs 1 ph)] → Q (.ref t) H
theorem c_parts {K : PySem.W.Frag} {C : Addr} {v : V} {rs : List (List Pm.Cut)} {ph : Nat} {H : Hp} {Q : VK} {E : XK} (h0 : PlanAt K C H v rs) (h1 : ph < rs.length) (q : ∀ t, SqT K H t [.int (Pm.W rs 0 ph), .int (Pm.W rs 1 ph)] → Q (.ref t) H) : sp_parts K C [v, .int ph] H Q E := ⟨_, _, _, rfl, h0, h1, q⟩
theorem ok_parts {f : Addr} {fd : FuncData} (F : Df K "parts" "Plan.parts" s_parts [] f fd) (G : PlG K mg C AX) (cWP : Ca P w K mg base 3 "want_phase" (sp_wantphase K C) []) : FnOk P w K mg base CX0 4 f fd ["self", "phase"] (sp_parts K C) := by
  refine dfOk F sc_parts (fun vs H Q E h => ?_) (fun cdv A outer s H vs Q E hr h => ?_)
  · obtain ⟨v, rs, ph, rfl, _⟩ := h
    rfl
  · obtain ⟨v, rs, ph, rfl, hp, hph, q⟩ := h
    obtain ⟨a, dx, R, Pt, rfl, ea, hR, hP⟩ := hp.ex
    obtain ⟨b, xs, rfl, hs, ha⟩ := hP.lstE
    obtain ⟨x, hx, hdx⟩ := ha.got (i := ph) (by rw [List.getElem?_map, rs_get hph]; rfl)
    obtain ⟨t, rfl, ht⟩ := pair_at hdx
    refine ⟨_, (pss_cons (ps_expr (pe_ca cWP hr (by decide) (by rfl) (pa_cons (pv 0) (pa_cons (pv 1) pa_nil))))
  (pss_one (ps_ret (pe_ix ix_list' (pe_fld (pv 0) rfl) (pv 1) (fun _ _ => rfl))))), ?_⟩
    refine ⟨_, rfl, _, rfl, _, rs, ph, rfl, hp, hph, ?_⟩
    exact ⟨_, rfl, a, C, dx, _, _, rfl, ea, G.I.cl, G.nP, rfl, _, rfl, b, xs, _, .ref t, rfl, rfl, hs, atI_nat hx, q t ht⟩
/-- what plan.m reads of the object -/
theorem plan_obj {H : Hp} {v : V} {rs : List (List Pm.Cut)} (hp : PlanAt K C H v rs) : ∃ a dx fs, v = .ref a ∧ H a = some (.ins C dx fs) ∧ ∀ m : Str, m ≠ "own_rounds" → m ≠ "own_parts" → m ≠ "own_growth" → fs.lookup m = none := by
  obtain ⟨a, dx, R, Pt, rfl, ea, _⟩ := hp.ex
  refine ⟨a, dx, _, rfl, ea, fun m h1 h2 h3 => ?_⟩
  have z : ∀ {x : Str}, m ≠ x → (m == x) = false := fun h => by simpa using h
  unfold plF
  simp only [List.lookup, z h1, z h2, z h3]
def sp_signs (K : PySem.W.Frag) (C : Addr) : Sp := fun vs H Q _ => ∃ (v : V) (rs : List (List Pm.Cut)) (ph : Nat), vs = [v, .int ph] ∧ PlanAt K C H v rs ∧ ph < rs.length ∧ Q (.int (Pm.S rs ph : Nat)) H
theorem c_signs {K : PySem.W.Frag} {C : Addr} {v : V} {rs : List (List Pm.Cut)} {ph : Nat} {H : Hp} {Q : VK} {E : XK} (h0 : PlanAt K C H v rs) (h1 : ph < rs.length) (q : Q (.int (Pm.S rs ph : Nat)) H) : sp_signs K C [v, .int ph] H Q E := ⟨_, _, _, rfl, h0, h1, q⟩
theorem ok_signs {f : Addr} {fd : FuncData} (F : Df K "signs" "Plan.signs" s_signs [] f fd) (cPa : Me P w K mg base 4 C "parts" (sp_parts K C) []) : FnOk P w K mg base CX0 5 f fd ["self", "phase"] (sp_signs K C) := by
  refine dfOk F sc_signs (fun vs H Q E h => ?_) (fun cdv A outer s H vs Q E hr h => ?_)
  · obtain ⟨v, rs, ph, rfl, _⟩ := h
    rfl
  · obtain ⟨v, rs, ph, rfl, hp, hph, q⟩ := h
    obtain ⟨a, dx, fs, rfl, ea, hl⟩ := plan_obj hp
    refine ⟨_, (pss_cons (ps_asg (pe_me cPa hr (by decide) (pv 0) (pa_cons (pv 1) pa_nil)) (pg_tup' 2 (pgs_cons (pg_name (i := 2) sc_signs.nd rfl (Or.inl rfl)) (pgs_cons (pg_name (i := 3) sc_signs.nd rfl (Or.inl rfl)) pgs_nil))))
  (pss_one (ps_ret (pe_op op_mul (pv 2) (pv 3))))), ?_⟩
    have w := hp.ok.W32 ph
    refine ⟨_, rfl, a, dx, fs, rfl, ea, hl _ (by decide) (by decide) (by decide), _, rfl, _, rs, ph, rfl, hp, hph, fun t ht => ?_⟩
    refine ⟨t, _, rfl, ht, rfl, _, _, rfl, _, _, rfl, rfl, ?_⟩
    refine ⟨_, rfl, _, rfl, _, _, rfl, rfl, .inl ⟨by omega, by omega⟩, ?_⟩
    rw [hp.ok.SW ph, Int.natCast_mul] at q
    exact q
def sp_wantsign (K : PySem.W.Frag) (C : Addr) : Sp := fun vs H Q _ => ∃ (v : V) (rs : List (List Pm.Cut)) (ph s : Nat), vs = [v, .int ph, .int s] ∧ PlanAt K C H v rs ∧ ph < rs.length ∧ s < Pm.S rs ph ∧ Q .non H
theorem c_wantsign {K : PySem.W.Frag} {C : Addr} {v : V} {rs : List (List Pm.Cut)} {ph s : Nat} {H : Hp} {Q : VK} {E : XK} (h0 : PlanAt K C H v rs) (h1 : ph < rs.length) (h2 : s < Pm.S rs ph) (q : Q .non H) : sp_wantsign K C [v, .int ph, .int s] H Q E := ⟨_, _, _, _, rfl, h0, h1, h2, q⟩
theorem ok_wantsign {f : Addr} {fd : FuncData} (F : Df K "want_sign" "want_sign" s_wantsign [] f fd) (cCo : Ca P w K mg base 2 "is_count" (sp_count K) []) (cSi : Me P w K mg base 5 C "signs" (sp_signs K C) []) : FnOk P w K mg base CX0 6 f fd ["plan", "phase", "value"] (sp_wantsign K C) := by
  refine dfOk F sc_wantsign (fun vs H Q E h => ?_) (fun cdv A outer s H vs Q E hr h => ?_)
  · obtain ⟨v, rs, ph, s, rfl, _⟩ := h
    rfl
  · obtain ⟨v, rs, ph, s0, rfl, hp, hph, hs, q⟩ := h
    obtain ⟨a, dx, fs, rfl, ea, hl⟩ := plan_obj hp
    refine ⟨_, (pss_one (ps_if (PW.pt (pw_or (pt_not (pt_val (pe_ca cCo hr (by decide) (by rfl) (pa_cons (pv 2) pa_nil)))) (pw_or1 (pt_cmpR op_ge (pv 2) (pe_me cSi hr (by decide) (pv 0) (pa_cons (pv 1) pa_nil)) (nomark _)))))
  pss_never
  pss_nil)), ?_⟩
    refine ⟨_, rfl, tnil (count_int (by omega) ⟨_, rfl, iteF ?_⟩)⟩
    refine ⟨_, rfl, _, rfl, a, dx, fs, rfl, ea, hl _ (by decide) (by decide) (by decide), _, rfl, _, rs, ph, rfl, hp, hph, _, _, rfl, rfl, _, rfl, ?_⟩
    rw [decide_eq_false (show ¬ ((Pm.S rs ph : Nat) : Int) ≤ (s0 : Int) by omega)]
    exact iteF q
def sp_placeof (K : PySem.W.Frag) (C : Addr) : Sp := fun vs H Q _ => ∃ (v : V) (rs : List (List Pm.Cut)) (ph s : Nat), vs = [v, .int ph, .int s] ∧ PlanAt K C H v rs ∧ ph < rs.length ∧ s < Pm.S rs ph ∧
  ∀ t H', Same H H' → H' t = some (.tup [.int (Pm.A rs 0 ph s), .int (Pm.A rs 1 ph s)]) → Q (.ref t) H'
theorem c_placeof {K : PySem.W.Frag} {C : Addr} {v : V} {rs : List (List Pm.Cut)} {ph s : Nat} {H : Hp} {Q : VK} {E : XK} (h0 : PlanAt K C H v rs) (h1 : ph < rs.length) (h2 : s < Pm.S rs ph) (q : ∀ t H', Same H H' → H' t = some (.tup [.int (Pm.A rs 0 ph s), .int (Pm.A rs 1 ph s)]) → Q (.ref t) H') : sp_placeof K C [v, .int ph, .int s] H Q E := ⟨_, _, _, _, rfl, h0, h1, h2, q⟩
theorem ok_placeof {f : Addr} {fd : FuncData} (F : Df K "place_of" "Plan.place_of" s_placeof [] f fd) (G : PlG K mg C AX) (cWP : Ca P w K mg base 3 "want_phase" (sp_wantphase K C) []) (cWS : Ca P w K mg base 6 "want_sign" (sp_wantsign K C) []) (cPi : Ca P w K mg base 2 "place_in" (sp_placein K) []) :
    FnOk P w K mg base CX0 7 f fd ["self", "phase", "sign"] (sp_placeof K C) := by
  refine dfOk F sc_placeof (fun vs H Q E h => ?_) (fun cdv A outer s H vs Q E hr h => ?_)
  · obtain ⟨v, rs, ph, s, rfl, _⟩ := h
    rfl
  · obtain ⟨v, rs, ph, s0, rfl, hp, hph, hs, q⟩ := h
    obtain ⟨a, dx, R, Pt, rfl, ea, hR, hP⟩ := hp.ex
    obtain ⟨b, xs, rfl, hsq, ha⟩ := hR.lstE
    obtain ⟨x, hx, hdx⟩ := ha.got (i := ph) (by rw [List.getElem?_map, rs_get hph]; rfl)
    refine ⟨_, (pss_cons (ps_expr (pe_ca cWP hr (by decide) (by rfl) (pa_cons (pv 0) (pa_cons (pv 1) pa_nil))))
  (pss_cons (ps_expr (pe_ca cWS hr (by decide) (by rfl) (pa_cons (pv 0) (pa_cons (pv 1) (pa_cons (pv 2) pa_nil)))))
  (pss_one (ps_ret (pe_ca cPi hr (by decide) (by rfl) (pa_cons (pe_ix ix_list' (pe_fld (pv 0) rfl) (pv 1) (fun _ _ => rfl)) (pa_cons (pv 2) pa_nil))))))), ?_⟩
    refine ⟨_, rfl, _, rfl, _, rs, ph, rfl, hp, hph, ?_⟩
    refine ⟨_, rfl, _, rfl, _, rfl, _, rs, ph, s0, rfl, hp, hph, hs, ?_⟩
    exact ⟨_, rfl, a, C, dx, _, _, rfl, ea, G.I.cl, G.nR, rfl, _, rfl, b, xs, _, x, rfl, rfl, hsq, atI_nat hx, _, rfl, x, _, s0, rfl, hdx, hp.ok.rnd ph, q⟩
/-! phase_at, pair_of -/
theorem rnd_mod {rs : List (List Pm.Cut)} (k : Nat) : Pm.rnd rs (k % rs.length) = Pm.rnd rs k := by
  unfold Pm.rnd
  rw [Nat.mod_mod]
end
end T
set_option Elab.async false
namespace Pm
/-- the sign at a place of a round, the cuts from the last one on -/
def sg : List Cut → Nat → Nat → Nat
  | [], _, _ => 0
  | (a, p) :: r, x, y => if a = 0 then x % p + p * sg r (x / p) y else y % p + p * sg r x (y / p)
theorem sg_lt {r : List Cut} (h : ∀ c ∈ r, CutOk c) (x y : Nat) : sg r x y < size r := by
  induction r generalizing x y with
  | nil => simp [sg, size]
  | cons c r ih =>
    obtain ⟨a, p⟩ := c
    have h1 := h (a, p) (List.mem_cons_self ..)
    have hp : 0 < p := Nat.lt_of_lt_of_le (by decide) h1.2.1
    have hr : ∀ c ∈ r, CutOk c := fun c hc => h c (List.mem_cons_of_mem _ hc)
    have key : ∀ z u : Nat, u < size r → z % p + p * u < p * size r := fun z u hu => by
      have hm := Nat.mod_lt z hp
      calc z % p + p * u < p + p * u := by omega
        _ = p * (u + 1) := by rw [Nat.mul_add, Nat.mul_one, Nat.add_comm]
        _ ≤ p * size r := Nat.mul_le_mul_left p hu
    simp only [sg, size]
    split
    · exact key _ _ (ih hr _ _)
    · exact key _ _ (ih hr _ _)
theorem al_sg {r : List Cut} (h : ∀ c ∈ r, CutOk c) {x y : Nat} (hx : x < wid r 0) (hy : y < wid r 1) : al r (sg r x y) 0 = x ∧ al r (sg r x y) 1 = y := by
  induction r generalizing x y with
  | nil => simp [wid] at hx hy; simp [al, hx, hy]
  | cons c r ih =>
    obtain ⟨a, p⟩ := c
    have h1 := h (a, p) (List.mem_cons_self ..)
    have hp : 0 < p := Nat.lt_of_lt_of_le (by decide) h1.2.1
    have hr : ∀ c ∈ r, CutOk c := fun c hc => h c (List.mem_cons_of_mem _ hc)
    have ha : a = 0 ∨ a = 1 := by have := h1.1; simp at this; omega
    have m1 : ∀ z u : Nat, (z % p + p * u) % p = z % p := fun z u => by rw [Nat.add_mul_mod_self_left, Nat.mod_mod]
    have d1 : ∀ z u : Nat, (z % p + p * u) / p = u := fun z u => by rw [Nat.add_mul_div_left _ _ hp, Nat.div_eq_of_lt (Nat.mod_lt z hp), Nat.zero_add]
    rcases ha with rfl | rfl
    · simp only [wid, if_true, Nat.zero_ne_one, if_false, Nat.one_mul] at hx hy
      have hx' : x / p < wid r 0 := Nat.div_lt_of_lt_mul hx
      obtain ⟨i0, i1⟩ := ih hr hx' hy
      simp only [al, sg, if_true, Nat.zero_ne_one, if_false, m1, d1, i0, i1, and_true]
      exact Nat.mod_add_div x p
    · simp only [wid, if_true, Nat.one_ne_zero, if_false, Nat.one_mul] at hx hy
      have hy' : y / p < wid r 1 := Nat.div_lt_of_lt_mul hy
      obtain ⟨i0, i1⟩ := ih hr hx hy'
      simp only [al, sg, if_true, Nat.one_ne_zero, if_false, m1, d1, i0, i1, true_and]
      exact Nat.mod_add_div y p
/-- the sign of phase k -/
def G (rs : List (List Cut)) (k x y : Nat) : Nat := sg (rnd rs k).reverse x y
theorem RdsOk.G_lt {rs : List (List Cut)} (h : RdsOk rs) (k x y : Nat) : G rs k x y < Pm.S rs k := by
  have := sg_lt (r := (Pm.rnd rs k).reverse) (fun c hc => h.cut k c (List.mem_reverse.mp hc)) x y
  rw [size_rev] at this
  exact this
theorem RdsOk.A_G {rs : List (List Cut)} (h : RdsOk rs) {k x y : Nat} (hx : x < Pm.W rs 0 k) (hy : y < Pm.W rs 1 k) : A rs 0 k (G rs k x y) = x ∧ A rs 1 k (G rs k x y) = y := by
  refine al_sg (r := (Pm.rnd rs k).reverse) (fun c hc => h.cut k c (List.mem_reverse.mp hc)) ?_ ?_
  · rw [wid_rev]; exact hx
  · rw [wid_rev]; exact hy
theorem RdsOk.G_A {rs : List (List Cut)} (h : RdsOk rs) {k s : Nat} (hs : s < Pm.S rs k) : G rs k (A rs 0 k s) (A rs 1 k s) = s := by
  have e := h.A_G (h.A_lt 0 k s) (h.A_lt 1 k s)
  refine al_inj (r := (Pm.rnd rs k).reverse) (fun c hc => h.cut k c (List.mem_reverse.mp hc)) ?_ ?_ e.1 e.2
  · rw [size_rev]; exact h.G_lt _ _ _
  · rw [size_rev]; exact hs
/-- the signs of a number pair, the last one first -/
def back (rs : List (List Cut)) : Nat → Nat → Nat → List Nat
  | 0, _, _ => []
  | k + 1, x, y => G rs k (x % W rs 0 k) (y % W rs 1 k) :: back rs k (x / W rs 0 k) (y / W rs 1 k)
def name (rs : List (List Cut)) (f x y : Nat) : List Nat := (back rs f x y).reverse
theorem back_len (rs : List (List Cut)) : ∀ f x y, (back rs f x y).length = f
  | 0, _, _ => rfl
  | f + 1, x, y => by simp [back, back_len rs f]
theorem name_len (rs : List (List Cut)) (f x y : Nat) : (name rs f x y).length = f := by simp [name, back_len]
theorem name_succ (rs : List (List Cut)) (f x y : Nat) : name rs (f + 1) x y = name rs f (x / W rs 0 f) (y / W rs 1 f) ++ [G rs f (x % W rs 0 f) (y % W rs 1 f)] := by simp [name, back]
theorem getD_app_left {a b : List Nat} {k : Nat} (h : k < a.length) : (a ++ b).getD k 0 = a.getD k 0 := by
  rw [List.getD_eq_getElem?_getD, List.getElem?_append_left h, ← List.getD_eq_getElem?_getD]
theorem getD_app_last (a : List Nat) (g : Nat) : (a ++ [g]).getD a.length 0 = g := by
  rw [List.getD_eq_getElem?_getD, List.getElem?_append_right (Nat.le_refl _)]; simp
theorem RdsOk.name_ok {rs : List (List Cut)} (h : RdsOk rs) : ∀ f x y k, k < f → (name rs f x y).getD k 0 < Pm.S rs k
  | 0, _, _, k, hk => by omega
  | f + 1, x, y, k, hk => by
    rw [name_succ]
    have hl := name_len rs f (x / Pm.W rs 0 f) (y / Pm.W rs 1 f)
    rcases Nat.lt_or_ge k f with z | z
    · rw [getD_app_left (by omega)]; exact RdsOk.name_ok h f _ _ k z
    · have : k = (name rs f (x / Pm.W rs 0 f) (y / Pm.W rs 1 f)).length := by omega
      subst this
      rw [getD_app_last, hl]
      exact h.G_lt _ _ _
theorem nm_name {rs : List (List Cut)} (h : RdsOk rs) : ∀ f x y, x < cnt rs 0 f → y < cnt rs 1 f → nm rs 0 (fun k => (name rs f x y).getD k 0) f = x ∧ nm rs 1 (fun k => (name rs f x y).getD k 0) f = y
  | 0, x, y, hx, hy => by simp [cnt] at hx hy; simp [nm, hx, hy]
  | f + 1, x, y, hx, hy => by
    have w0 := h.W 0 f
    have w1 := h.W 1 f
    have hx' : x / Pm.W rs 0 f < cnt rs 0 f := Nat.div_lt_of_lt_mul (by rw [Nat.mul_comm]; exact hx)
    have hy' : y / Pm.W rs 1 f < cnt rs 1 f := Nat.div_lt_of_lt_mul (by rw [Nat.mul_comm]; exact hy)
    obtain ⟨i0, i1⟩ := nm_name h f _ _ hx' hy'
    have hl := name_len rs f (x / Pm.W rs 0 f) (y / Pm.W rs 1 f)
    have a := h.A_G (k := f) (Nat.mod_lt x w0) (Nat.mod_lt y w1)
    have eq : ∀ ax, nm rs ax (fun k => (name rs (f + 1) x y).getD k 0) f = nm rs ax (fun k => (name rs f (x / Pm.W rs 0 f) (y / Pm.W rs 1 f)).getD k 0) f := fun ax => nm_congr fun k hk => by
      rw [name_succ, getD_app_left (by omega)]
    have lst : (name rs (f + 1) x y).getD f 0 = G rs f (x % Pm.W rs 0 f) (y % Pm.W rs 1 f) := by
      rw [name_succ]
      have := getD_app_last (name rs f (x / Pm.W rs 0 f) (y / Pm.W rs 1 f)) (G rs f (x % Pm.W rs 0 f) (y % Pm.W rs 1 f))
      rwa [hl] at this
    simp only [nm, eq, i0, i1, lst, a.1, a.2]
    exact ⟨by rw [Nat.mul_comm]; exact Nat.div_add_mod x _, by rw [Nat.mul_comm]; exact Nat.div_add_mod y _⟩
/-- the name of the number pair of a name -/
theorem name_nm {rs : List (List Cut)} (h : RdsOk rs) {ns : List Nat} (hn : ∀ k, k < ns.length → ns.getD k 0 < Pm.S rs k) : name rs ns.length (nm rs 0 (fun k => ns.getD k 0) ns.length) (nm rs 1 (fun k => ns.getD k 0) ns.length) = ns := by
  have hx := h.nm_lt 0 (fun k => ns.getD k 0) ns.length
  have hy := h.nm_lt 1 (fun k => ns.getD k 0) ns.length
  have e := nm_name h ns.length _ _ hx hy
  have hl := name_len rs ns.length (nm rs 0 (fun k => ns.getD k 0) ns.length) (nm rs 1 (fun k => ns.getD k 0) ns.length)
  have := h.inj (f := fun k => (name rs ns.length (nm rs 0 (fun k => ns.getD k 0) ns.length) (nm rs 1 (fun k => ns.getD k 0) ns.length)).getD k 0) (g := fun k => ns.getD k 0) (n := ns.length) (fun k hk => h.name_ok _ _ _ k hk) hn e.1 e.2
  refine List.ext_getElem hl fun k h1 h2 => ?_
  have t := this k h2
  have gd : ∀ (l : List Nat) (hk : k < l.length), l.getD k 0 = l[k] := fun l hk => by rw [List.getD_eq_getElem?_getD, List.getElem?_eq_getElem hk]; rfl
  exact ((gd _ h1).symm.trans t).trans (gd _ h2)
/-! a plan with its axes exchanged -/
def tu (c : Cut) : Cut := (1 - c.1, c.2)
theorem wid_tu {r : List Cut} (h : ∀ c ∈ r, CutOk c) : wid (r.map tu) 0 = wid r 1 ∧ wid (r.map tu) 1 = wid r 0 := by
  induction r with
  | nil => exact ⟨rfl, rfl⟩
  | cons c r ih =>
    obtain ⟨a, p⟩ := c
    have h1 := h (a, p) (List.mem_cons_self ..)
    obtain ⟨i0, i1⟩ := ih fun c hc => h c (List.mem_cons_of_mem _ hc)
    have ha : a = 0 ∨ a = 1 := by have := h1.1; simp at this; omega
    rcases ha with rfl | rfl <;> simp [wid, tu, i0, i1]
theorem size_tu (r : List Cut) : size (r.map tu) = size r := by
  induction r with
  | nil => rfl
  | cons c r ih => obtain ⟨a, p⟩ := c; simp [size, tu, ih]
theorem cut_tu {c : Cut} (h : CutOk c) : CutOk (tu c) := ⟨by have := h.1; simp [tu]; omega, h.2⟩
theorem rnd_tu {r : List Cut} (h : RndOk r) : RndOk (r.map tu) :=
  ⟨by rw [List.length_map]; exact h.1, by rw [List.length_map]; exact h.2.1, fun c hc => by obtain ⟨d, hd, rfl⟩ := List.mem_map.mp hc; exact cut_tu (h.2.2.1 d hd), by rw [size_tu]; exact h.2.2.2⟩
theorem tot_tu {rs : List (List Cut)} (h : ∀ r ∈ rs, RndOk r) : tot (rs.map (·.map tu)) 0 = tot rs 1 ∧ tot (rs.map (·.map tu)) 1 = tot rs 0 := by
  unfold tot
  induction rs with
  | nil => exact ⟨rfl, rfl⟩
  | cons r rs ih =>
    obtain ⟨i0, i1⟩ := ih fun r hr => h r (List.mem_cons_of_mem _ hr)
    have w := wid_tu (h r (List.mem_cons_self ..)).2.2.1
    simp only [List.map_cons, List.foldr_cons]
    rw [i0, i1, w.1, w.2]
    exact ⟨rfl, rfl⟩
def turn (rs : List (List Cut)) : List (List Cut) := rs.map (·.map tu)
theorem RdsOk.turn {rs : List (List Cut)} (h : RdsOk rs) : RdsOk (turn rs) := by
  have t := tot_tu h.2.2.1
  refine ⟨by rw [Pm.turn, List.length_map]; exact h.1, by rw [Pm.turn, List.length_map]; exact h.2.1, fun r hr => ?_, ?_⟩
  · obtain ⟨q, hq, rfl⟩ := List.mem_map.mp hr
    exact rnd_tu (h.2.2.1 q hq)
  · unfold Pm.turn
    rw [t.1, t.2]
    exact h.2.2.2.symm
theorem rnd_turn (rs : List (List Cut)) (k : Nat) : rnd (turn rs) k = (rnd rs k).map tu := by
  unfold rnd turn
  rw [List.length_map, List.getD_eq_getElem?_getD, List.getD_eq_getElem?_getD, List.getElem?_map]
  cases rs[k % rs.length]? <;> rfl
theorem RdsOk.W_turn {rs : List (List Cut)} (h : RdsOk rs) (k : Nat) : Pm.W (Pm.turn rs) 0 k = Pm.W rs 1 k ∧ Pm.W (Pm.turn rs) 1 k = Pm.W rs 0 k := by
  unfold Pm.W
  rw [rnd_turn]
  exact wid_tu (h.cut k)
theorem S_turn (rs : List (List Cut)) (k : Nat) : Pm.S (turn rs) k = Pm.S rs k := by
  unfold S
  rw [rnd_turn, size_tu]
theorem al_tu {r : List Cut} (h : ∀ c ∈ r, CutOk c) (s : Nat) : al (r.map tu) s 0 = al r s 1 ∧ al (r.map tu) s 1 = al r s 0 := by
  induction r generalizing s with
  | nil => exact ⟨rfl, rfl⟩
  | cons c r ih =>
    obtain ⟨a, p⟩ := c
    have h1 := h (a, p) (List.mem_cons_self ..)
    obtain ⟨i0, i1⟩ := ih (fun c hc => h c (List.mem_cons_of_mem _ hc)) (s / p)
    have ha : a = 0 ∨ a = 1 := by have := h1.1; simp at this; omega
    rcases ha with rfl | rfl <;> simp [al, tu, i0, i1]
theorem RdsOk.A_turn {rs : List (List Cut)} (h : RdsOk rs) (k s : Nat) : A (Pm.turn rs) 0 k s = A rs 1 k s ∧ A (Pm.turn rs) 1 k s = A rs 0 k s := by
  unfold A
  rw [rnd_turn, ← List.map_reverse]
  exact al_tu (fun c hc => h.cut k c (List.mem_reverse.mp hc)) s
theorem RdsOk.nm_turn {rs : List (List Cut)} (h : RdsOk rs) (f : Nat → Nat) (n : Nat) : nm (Pm.turn rs) 0 f n = nm rs 1 f n ∧ nm (Pm.turn rs) 1 f n = nm rs 0 f n := by
  induction n with
  | zero => exact ⟨rfl, rfl⟩
  | succ n ih =>
    have w := h.W_turn n
    have a := h.A_turn n (f n)
    simp only [nm, ih.1, ih.2, w.1, w.2, a.1, a.2]
    exact ⟨trivial, trivial⟩
theorem RdsOk.cnt_turn {rs : List (List Cut)} (h : RdsOk rs) (n : Nat) : cnt (Pm.turn rs) 0 n = cnt rs 1 n ∧ cnt (Pm.turn rs) 1 n = cnt rs 0 n := by
  induction n with
  | zero => exact ⟨rfl, rfl⟩
  | succ n ih =>
    have w := h.W_turn n
    simp only [cnt, ih.1, ih.2, w.1, w.2]
    exact ⟨trivial, trivial⟩
theorem turn_turn {rs : List (List Cut)} (h : RdsOk rs) : turn (turn rs) = rs := by
  unfold turn
  rw [List.map_map]
  conv => rhs; rw [← List.map_id rs]
  refine List.map_congr_left fun r hr => ?_
  show (r.map tu).map tu = r
  rw [List.map_map]
  conv => rhs; rw [← List.map_id r]
  refine List.map_congr_left fun c hc => ?_
  have := ((h.2.2.1 r hr).2.2.1 c hc).1
  show (1 - (1 - c.1), c.2) = c
  rw [show 1 - (1 - c.1) = c.1 by omega]
end Pm
set_option Elab.async false
set_option maxRecDepth 100000
set_option maxHeartbeats 4000000
namespace Mv
open PySem PySem.Spec PyProof.Rows L2
/-- C(*e), C a class with a positional promise -/
def tMakeS (K : PySem.W.Frag) (C : Addr) (sp : Sp) (te : TE) : TE := fun σ H Q => te σ H fun y H1 => ∃ a xs, y = V.ref a ∧ (SqT K H1 a xs ∨ SqL K H1 a xs) ∧ ∀ x dx, H1 x = Option.none → H1 dx = Option.none → dx ≠ x →
  sp (V.ref x :: xs) (upd (upd H1 dx (.own x)) x (.ins C dx [])) (fun v H2 => v = .non ∧ Q (.ref x) H2) E0
section
variable {X : Cx} {k j : Nat} {C : Addr} {x : Str} {sp : Sp} {p pos sp_ : Pos} {e : Expr} {te : TE}
theorem pe_marS (c : MaR X.prog X.w X.K X.mg X.base k x C sp) (hr : Room j X.A) (hk : k + 1 ≤ j) (hg : Gl X x) (he : PE X e te) (hd : (x == ("__debug__" : Str)) = false := by decide)
    (hst : starEach [.Starred e sp_] X.env = [(true, eval e X.env)] := by rfl) :
    PE X (.Call (.Name x p) [.Starred e sp_] [] pos) (tMakeS X.K C sp te) := by
  obtain ⟨f, M, F, hm⟩ := c.ex
  refine ⟨fun pins s σ H Q I h => ?_⟩
  refine wpAny_Call_Name_kw (ld_glob I hg hm ?_ hd)
  refine PySem.W.callWith_S (h₀ := X.base) I.ok.mod.kin M.kp (thn (he.run pins s σ H _ I h) fun v s1 ⟨y, H1, I1, ry, a, xs, ey, hxs, q⟩ => ?_) hst
  subst ey
  obtain rfl : v = Value.ref a := ry
  exact StX.star_any I1 hxs fun us s2 I2 rv => ⟨I2.kIn, StX.run_makeR M F (hr.mono hk) pass0 I2 rv q⟩
end
end Mv
set_option Elab.async false
set_option maxRecDepth 100000
set_option maxHeartbeats 4000000
namespace T
open PySem L2 Mv
abbrev s_wantfine : Stmt := top 23
theorem sc_wantfine : FnScope ["value"] ["value"] (defScope s_wantfine) := ⟨rfl, rfl, rfl, by decide +kernel, rfl, by decide +kernel, by decide +kernel⟩
abbrev s_pcounts : Stmt := inClass (top 32) 14
theorem sc_pcounts : FnScope ["self", "f"] ["self", "f"] (defScope s_pcounts) := ⟨rfl, rfl, rfl, by decide +kernel, rfl, by decide +kernel, by decide +kernel⟩
abbrev s_signin : Stmt := top 31
theorem sc_signin : FnScope ["cuts", "pair", "left", "found", "count", "axis", "parts", "at"] ["cuts", "pair"] (defScope s_signin) := ⟨rfl, rfl, rfl, by decide +kernel, rfl, by decide +kernel, by decide +kernel⟩
abbrev s_signat : Stmt := inClass (top 32) 13
theorem sc_signat : FnScope ["self", "phase", "pair", "number", "columns", "rows"] ["self", "phase", "pair"] (defScope s_signat) := ⟨rfl, rfl, rfl, by decide +kernel, rfl, by decide +kernel, by decide +kernel⟩
section
variable {P : Program} {w : World} {K : PySem.W.Frag} {mg : Str → Option Value} {base : Heap} {C AX : Addr}
def sp_wantfine : Sp := fun vs H Q _ => ∃ (f : Nat), vs = [.int f] ∧ f ≤ 1000 ∧ Q .non H
theorem c_wantfine {f : Nat} {H : Hp} {Q : VK} {E : XK} (h0 : f ≤ 1000) (q : Q .non H) : sp_wantfine  [.int f] H Q E := ⟨_, rfl, h0, q⟩
theorem ok_wantfine {f : Addr} {fd : FuncData} (F : Df K "want_fineness" "want_fineness" s_wantfine [] f fd) (G : PlG K mg C AX) (cCo : Ca P w K mg base 2 "is_count" (sp_count K) []) : FnOk P w K mg base CX0 3 f fd ["value"] sp_wantfine := by
  refine dfOk F sc_wantfine (fun vs H Q E h => ?_) (fun cdv A outer s H vs Q E hr h => ?_)
  · obtain ⟨f, rfl, _⟩ := h
    rfl
  · obtain ⟨f, rfl, hf, q⟩ := h
    refine ⟨_, (pss_cons (ps_if (pt_not (pt_val (pe_ca cCo hr (by decide) (by rfl) (pa_cons (pv 0) pa_nil))))
  pss_never
  pss_nil)
  (pss_one (ps_if (pt_cmpR op_gt (pv 0) (pe_globI G.fine (by rfl)) (nomark _))
  pss_never
  pss_nil))), ?_⟩
    refine ⟨_, rfl, tnil (count_int (by omega) ⟨_, rfl, iteF ?_⟩)⟩
    refine ⟨_, rfl, _, _, rfl, rfl, _, rfl, ?_⟩
    rw [decide_eq_false (show ¬ ((1000 : Int) < (f : Int)) by omega)]
    exact iteF q
def sp_pcounts (K : PySem.W.Frag) (C : Addr) : Sp := fun vs H Q _ => ∃ (v : V) (rs : List (List Pm.Cut)) (f : Nat), vs = [v, .int f] ∧ PlanAt K C H v rs ∧ f ≤ 1000 ∧
  ∀ t H', Same H H' → H' t = some (.tup [.int (Pm.cnt rs 0 f), .int (Pm.cnt rs 1 f)]) → Q (.ref t) H'
theorem c_pcounts {K : PySem.W.Frag} {C : Addr} {v : V} {rs : List (List Pm.Cut)} {f : Nat} {H : Hp} {Q : VK} {E : XK} (h0 : PlanAt K C H v rs) (h1 : f ≤ 1000) (q : ∀ t H', Same H H' → H' t = some (.tup [.int (Pm.cnt rs 0 f), .int (Pm.cnt rs 1 f)]) → Q (.ref t) H') : sp_pcounts K C [v, .int f] H Q E := ⟨_, _, _, rfl, h0, h1, q⟩
theorem ok_pcounts {f : Addr} {fd : FuncData} (F : Df K "counts" "Plan.counts" s_pcounts [] f fd) (cWf : Ca P w K mg base 3 "want_fineness" sp_wantfine []) (cPr : Me P w K mg base 1 C "product_of" (sp_prod K C) []) : FnOk P w K mg base CX0 4 f fd ["self", "f"] (sp_pcounts K C) := by
  refine dfOk F sc_pcounts (fun vs H Q E h => ?_) (fun cdv A outer s H vs Q E hr h => ?_)
  · obtain ⟨v, rs, f, rfl, _⟩ := h
    rfl
  · obtain ⟨v, rs, f, rfl, hp, hf, q⟩ := h
    obtain ⟨a, dx, R, Pt, rfl, ea, hR, hP⟩ := hp.ex
    refine ⟨_, (pss_cons (ps_expr (pe_ca cWf hr (by decide) (by rfl) (pa_cons (pv 1) pa_nil)))
  (pss_one (ps_ret (pe_me cPr hr (by decide) (pv 0) (pa_cons (pv 1) pa_nil))))), ?_⟩
    refine ⟨_, rfl, f, rfl, hf, ?_⟩
    exact ⟨_, rfl, a, dx, _, rfl, ea, rfl, _, rfl, a, dx, _, Pt, rs, f, rfl, by omega, ea, rfl, hP, hp.ok, q⟩
/-! sign_in -/
theorem dr_cons {α : Type} {l : List α} {i : Nat} {c : α} (h : l[i]? = some c) : l.drop i = c :: l.drop (i + 1) := by
  have hi := (List.getElem?_eq_some_iff.mp h).1
  rw [List.drop_eq_getElem_cons hi]
  congr 1
  rw [List.getElem?_eq_getElem hi] at h
  exact Option.some.inj h
theorem upd_id {H : Hp} {a : Addr} {o : HO} (h : H a = some o) : upd H a o = H := by
  funext b
  by_cases e : b = a
  · subst e; rw [upd_same]; exact h.symm
  · rw [upd_ne e]
def sp_signin (K : PySem.W.Frag) : Sp := fun vs H Q _ => ∃ (v u : V) (r : List Pm.Cut) (x y : Nat), vs = [v, u] ∧ Dp K H v (pRnd r) ∧ Pm.RndOk r ∧ Dp K H u (.tuple [.int x, .int y]) ∧ ∀ H', Same H H' → Q (.int (Pm.sg r.reverse x y)) H'
theorem c_signin {K : PySem.W.Frag} {v u : V} {r : List Pm.Cut} {x y : Nat} {H : Hp} {Q : VK} {E : XK} (h0 : Dp K H v (pRnd r)) (h1 : Pm.RndOk r) (h2 : Dp K H u (.tuple [.int x, .int y])) (q : ∀ H', Same H H' → Q (.int (Pm.sg r.reverse x y)) H') : sp_signin K [v, u] H Q E := ⟨_, _, _, _, _, rfl, h0, h1, h2, q⟩
theorem ok_signin {f : Addr} {fd : FuncData} (F : Df K "sign_in" "sign_in" s_signin [] f fd) (B : Blt mg) (G : PlG K mg C AX) : FnOk P w K mg base CX0 1 f fd ["cuts", "pair"] (sp_signin K) := by
  refine dfOk F sc_signin (fun vs H Q E h => ?_) (fun cdv A outer s H vs Q E hr h => ?_)
  · obtain ⟨v, u, r, x, y, rfl, _⟩ := h
    rfl
  · obtain ⟨v, u, r, x0, y0, rfl, hd, hok, hu, q⟩ := h
    obtain ⟨a, xs, rfl, hs, ha⟩ := hd.lstE
    obtain ⟨b, rfl, hb⟩ := pair_at hu
    have har := ha.rev
    rw [← List.map_reverse] at har
    have hlen : xs.reverse.length = r.reverse.length := by rw [har.len, List.length_map]
    have hcut : ∀ c ∈ r.reverse, Pm.CutOk c := fun c hc => hok.2.2.1 c (List.mem_reverse.mp hc)
    generalize r.reverse = rr at *
    refine ⟨_, (pss_cons (ps_par3 (i := 2) (j := 3) (l := 4) (by rfl) sc_signin.nd rfl rfl rfl (by decide) (by decide) (by decide) rfl rfl rfl (pa_cons (pe_callTy call_list_of' (by rfl) B.list bt_list (pa_cons (pv 1) pa_nil)) (pa_cons pe_int (pa_cons pe_int pa_nil))) (by rfl))
  (pss_cons (ps_for PassesOwn.never rfl (pi_list (pe_revL (pv 0))) (pg_tup' 2 (pgs_cons (pg_name (i := 5) sc_signin.nd rfl (Or.inl rfl)) (pgs_cons (pg_name (i := 6) sc_signin.nd rfl (Or.inl rfl)) pgs_nil)))
  (pss_cons (ps_set (i := 7) sc_signin.nd rfl (Or.inl rfl) (pe_bm PySem.F.plainAttrs_tuple PySem.F.slot_tuple_index PySem.F.type_tuple_index mt_tup_index (pe_glob (v := .ref AX) (by rfl) G.axes rfl) (pa_cons (pv 5) pa_nil)))
  (pss_cons (ps_set (i := 3) sc_signin.nd rfl (Or.inl rfl) (pe_op op_add (pv 3) (pe_op op_mul (pe_op op_mod (pe_ix ix_list' (pv 2) (pv 7) (fun _ _ => rfl)) (pv 6)) (pv 4))))
  (pss_cons (ps_set (i := 4) sc_signin.nd rfl (Or.inl rfl) (pe_op op_mul (pv 4) (pv 6)))
  (pss_one (ps_asg (pe_op op_fdiv (pe_ix ix_list' (pv 2) (pv 7) (fun _ _ => rfl)) (pv 6)) (pg_sub (pv 2) (pv 7) set_list)))))))
  (pss_one (ps_ret (pv 3))))), ?_⟩
    refine ⟨_, rfl, b, _, rfl, .inr hb, fun lf hlf => ?_⟩
    have s1 := fun o => same_new (o := o) hlf
    refine ⟨_, _, _, rfl, ?_⟩
    have elf : upd H lf (.lst [.int x0, .int y0]) lf = some (.lst [.int x0, .int y0]) := upd_same
    have s1' := s1 (.lst [.int x0, .int y0])
    generalize upd H lf (.lst [.int x0, .int y0]) = H1 at *
    refine ⟨_, rfl, a, xs, rfl, s1'.seq hs, fun l hl => ?_⟩
    have hlne : l ≠ lf := fun z => by rw [z, elf] at hl; cases hl
    have s3 := s1'.trans (same_new (o := .lst xs.reverse) hl)
    have elf3 := same_new (o := .lst xs.reverse) hl _ _ elf
    have el : upd H1 l (.lst xs.reverse) l = some (.lst xs.reverse) := upd_same
    have har3 := har.up s3
    generalize upd H1 l (.lst xs.reverse) = H3 at *
    have nlc : NLs (rr.map pCut) = true := NLs.map _ NL.pCut rr
    refine ⟨l, rfl, ⟨_, SqL.of el⟩, for_it (walk_list (xs := xs.reverse)) (fun i σ H' => ∃ (v5 v6 v7 : Option V) (fo co x y : Nat), σ = [some (.ref a), some (.ref b), some (.ref lf), some (.int fo), some (.int co), v5, v6, v7] ∧ H' = upd H3 lf (.lst [.int x, .int y]) ∧ fo + co * Pm.sg (rr.drop i) x y = Pm.sg rr x0 y0)
      ⟨_, _, _, 0, 1, x0, y0, rfl, (upd_id elf3).symm, by simp⟩ (fun i σ H' _ h => by obtain ⟨_, _, _, _, _, _, _, _, rfl, _⟩ := h; exact SqL.of (by rw [upd_ne hlne]; exact el)) ?_ ?_⟩
    · rintro i z σ H' H'' hi ⟨v5, v6, v7, fo, co, x, y, rfl, rfl, hinv⟩ ⟨rfl, hx⟩
      have bu : Bu lf H3 (upd H3 lf (.lst [.int x, .int y])) := Bu.set
      obtain ⟨d, hd1, hd2⟩ := (har3.bu nlc bu elf3).get hx
      rw [List.getElem?_map] at hd1
      obtain ⟨c, hc1, rfl⟩ := Option.map_eq_some_iff.mp hd1
      have hc := hcut c (List.mem_of_getElem? hc1)
      obtain ⟨t, rfl, ht⟩ := cut_at hd2
      have hp1 := hc.2.1
      have hp2 := hc.2.2
      rw [dr_cons hc1] at hinv
      obtain ⟨ca, cp⟩ := c
      have hca : ca = 0 ∨ ca = 1 := by have := hc.1; simp at this; omega
      simp only at hp1 hp2
      replace ht : SqT K (upd H3 lf (.lst [.int x, .int y])) t [.str (axn ca), .int cp] := ht
      refine ⟨t, _, rfl, ht, rfl, _, _, rfl, _, _, rfl, rfl, ?_⟩
      rcases hca with rfl | rfl
      · simp only [Pm.sg, if_true] at hinv
        refine ⟨.inr (.inl ⟨rfl, G.axk⟩), _, rfl, AX, ["east", "north"], "east", 0, rfl, rfl, G.axt _, rfl, fun m hm => by omega, ?_⟩
        refine ⟨_, rfl, _, rfl, _, rfl, lf, _, _, _, rfl, rfl, SqL.of upd_same, rfl, _, rfl, _, _, rfl, rfl, by show (0 : Int) < (cp : Int); omega, _, rfl, _, _, rfl, rfl, ?_, _, _, rfl, rfl, ?_⟩
        · have := Int.emod_lt_of_pos (x : Int) (show (0 : Int) < (cp : Int) by omega)
          have := Int.emod_nonneg (x : Int) (show (cp : Int) ≠ 0 by omega)
          exact .inl ⟨by omega, by omega⟩
        refine ⟨_, rfl, _, rfl, _, _, rfl, rfl, .inr ⟨by show -(2 ^ 64) < (cp : Int); omega, by show (cp : Int) < 2 ^ 64; omega⟩, ?_⟩
        refine ⟨_, rfl, _, rfl, lf, _, _, _, rfl, rfl, SqL.of upd_same, rfl, _, rfl, _, _, rfl, rfl, ⟨by omega, by omega⟩, _, rfl, _, rfl, lf, _, _, 0, rfl, rfl, upd_same, rfl, ?_⟩
        refine ⟨some (.str (axn 0)), some (.int cp), some (.int 0), fo + x % cp * co, co * cp, x / cp, y, ?_, ?_, ?_⟩
        · simp only [Int.natCast_add, Int.natCast_mul, Int.natCast_emod]
          rfl
        · rw [upd_upd]
          simp
        · rw [← hinv, Nat.mul_add, ← Nat.mul_assoc, ← Nat.add_assoc, Nat.mul_comm (x % cp)]
      · simp only [Pm.sg, Nat.one_ne_zero, if_false] at hinv
        refine ⟨.inr (.inl ⟨rfl, G.axk⟩), _, rfl, AX, ["east", "north"], "north", 1, rfl, rfl, G.axt _, rfl, fun m hm => by (obtain rfl : m = 0 := by omega); decide, ?_⟩
        refine ⟨_, rfl, _, rfl, _, rfl, lf, _, _, _, rfl, rfl, SqL.of upd_same, rfl, _, rfl, _, _, rfl, rfl, by show (0 : Int) < (cp : Int); omega, _, rfl, _, _, rfl, rfl, ?_, _, _, rfl, rfl, ?_⟩
        · have := Int.emod_lt_of_pos (y : Int) (show (0 : Int) < (cp : Int) by omega)
          have := Int.emod_nonneg (y : Int) (show (cp : Int) ≠ 0 by omega)
          exact .inl ⟨by omega, by omega⟩
        refine ⟨_, rfl, _, rfl, _, _, rfl, rfl, .inr ⟨by show -(2 ^ 64) < (cp : Int); omega, by show (cp : Int) < 2 ^ 64; omega⟩, ?_⟩
        refine ⟨_, rfl, _, rfl, lf, _, _, _, rfl, rfl, SqL.of upd_same, rfl, _, rfl, _, _, rfl, rfl, ⟨by omega, by omega⟩, _, rfl, _, rfl, lf, _, _, 1, rfl, rfl, upd_same, rfl, ?_⟩
        refine ⟨some (.str (axn 1)), some (.int cp), some (.int 1), fo + y % cp * co, co * cp, x, y / cp, ?_, ?_, ?_⟩
        · simp only [Int.natCast_add, Int.natCast_mul, Int.natCast_emod]
          rfl
        · rw [upd_upd]
          simp
        · rw [← hinv, Nat.mul_add, ← Nat.mul_assoc, ← Nat.add_assoc, Nat.mul_comm (y % cp)]
    · rintro σ H' ⟨v5, v6, v7, fo, co, x, y, rfl, rfl, hinv⟩
      refine ⟨_, rfl, ?_⟩
      rw [hlen, List.drop_length] at hinv
      simp only [Pm.sg, Nat.mul_zero, Nat.add_zero] at hinv
      rw [hinv]
      exact q _ (same_over s3 hlf)
/-! sign_at -/
def sp_signat (K : PySem.W.Frag) (C : Addr) : Sp := fun vs H Q _ => ∃ (v u : V) (rs : List (List Pm.Cut)) (ph x y : Nat), vs = [v, .int ph, u] ∧ PlanAt K C H v rs ∧ ph < rs.length ∧ Dp K H u (.tuple [.int x, .int y]) ∧ x < Pm.W rs 0 ph ∧ y < Pm.W rs 1 ph ∧
  ∀ H', Same H H' → Q (.int (Pm.G rs ph x y)) H'
theorem c_signat {K : PySem.W.Frag} {C : Addr} {v u : V} {rs : List (List Pm.Cut)} {ph x y : Nat} {H : Hp} {Q : VK} {E : XK} (h0 : PlanAt K C H v rs) (h1 : ph < rs.length) (h2 : Dp K H u (.tuple [.int x, .int y])) (h3 : x < Pm.W rs 0 ph) (h4 : y < Pm.W rs 1 ph) (q : ∀ H', Same H H' → Q (.int (Pm.G rs ph x y)) H') : sp_signat K C [v, .int ph, u] H Q E := ⟨_, _, _, _, _, _, rfl, h0, h1, h2, h3, h4, q⟩
theorem ok_signat {f : Addr} {fd : FuncData} (F : Df K "sign_at" "Plan.sign_at" s_signat [] f fd) (B : Blt mg) (G : PlG K mg C AX) (cWP : Ca P w K mg base 3 "want_phase" (sp_wantphase K C) []) (cCo : Ca P w K mg base 2 "is_count" (sp_count K) []) (cSin : Ca P w K mg base 1 "sign_in" (sp_signin K) []) :
    FnOk P w K mg base CX0 4 f fd ["self", "phase", "pair"] (sp_signat K C) := by
  refine dfOk F sc_signat (fun vs H Q E h => ?_) (fun cdv A outer s H vs Q E hr h => ?_)
  · obtain ⟨v, u, rs, ph, x, y, rfl, _⟩ := h
    rfl
  · obtain ⟨v, u, rs, ph, x, y, rfl, hp, hph, hu, hx, hy, q⟩ := h
    obtain ⟨b, rfl, hb⟩ := pair_at hu
    refine ⟨_, (pss_cons (ps_expr (pe_ca cWP hr (by decide) (by rfl) (pa_cons (pv 0) (pa_cons (pv 1) pa_nil))))
  (pss_cons (ps_if (PW.pt (pw_or (pt_not (pt_val (pe_callB call_isi' (by rfl) B.isinstance bt_isinstance (pa_cons (pv 2) (pa_cons (pe_bltn (v := .ty "tuple") (by rfl) B.tuple bt_tuple rfl) pa_nil))))) (pw_or (pt_cmpR op_ne (pe_callB call_len_seq' (by rfl) B.len bt_len (pa_cons (pv 2) pa_nil)) pe_int (nomark _)) (pw_or1 (pt_not (pt_val (pe_callB (cr_all rfl) (by rfl) B.all bt_all (pa_cons (pe_lc (own := [("number", 3)]) (by rfl) sc_signat.nd (pi_tup (pv 2)) (blkOk_by (own := [("number", 3)]) (N := ["self", "phase", "pair", "number", "columns", "rows"]) (sc := defScope s_signat) (by decide +kernel)) (fun _ _ _ _ _ => (pg_name (i := 3) sc_signat.nd rfl (Or.inl rfl))) (fun _ _ _ _ _ => pts_nil) (fun _ _ _ _ _ => (pe_ca cCo hr (by decide) (by rfl) (pa_cons (pv 3) pa_nil)))) pa_nil))))))))
  pss_never
  pss_nil)
  (pss_cons (ps_asg (pe_ix ix_list' (pe_fld (pv 0) rfl) (pv 1) (fun _ _ => rfl)) (pg_tup' 2 (pgs_cons (pg_name (i := 4) sc_signat.nd rfl (Or.inl rfl)) (pgs_cons (pg_name (i := 5) sc_signat.nd rfl (Or.inl rfl)) pgs_nil))))
  (pss_cons (ps_if (PW.pt (pw_or (pt_cmpR op_ge (pe_ix ix_tup' (pv 2) pe_int (fun _ _ => rfl)) (pv 4) (nomark _)) (pw_or1 (pt_cmpR op_ge (pe_ix ix_tup' (pv 2) pe_int (fun _ _ => rfl)) (pv 5) (nomark _)))))
  pss_never
  pss_nil)
  (pss_one (ps_ret (pe_ca cSin hr (by decide) (by rfl) (pa_cons (pe_ix ix_list' (pe_fld (pv 0) rfl) (pv 1) (fun _ _ => rfl)) (pa_cons (pv 2) pa_nil))))))))), ?_⟩
    refine ⟨_, rfl, _, rfl, _, rs, ph, rfl, hp, hph, ?_⟩
    refine ⟨_, rfl, _, _, _, _, true, rfl, .ty _, tyT hb, kit_ty (by decide +kernel), true, rfl, iteF ?_⟩
    refine ⟨_, rfl, b, _, rfl, .inr hb, rfl, _, rfl, iteF ?_⟩
    refine ⟨_, rfl, b, rfl, ⟨_, hb⟩, fun D hD => lc_nl (K := K) (walk_tup (xs := [.int x, .int y])) (List.replicate 2 (.bool true)) (by simp) (by show 2 ≤ 100000; decide) rfl hD (fun H' s' => Same.tup s' hb) ?_ ?_ gName_mono⟩
    · rintro i e z H2 _ Q2 hi he s2 ⟨rfl, hx⟩ hq
      refine ⟨rfl, ?_⟩
      obtain rfl : e = .bool true := List.eq_of_mem_replicate (List.mem_of_getElem? he)
      obtain ⟨n, rfl⟩ : ∃ n : Nat, z = .int n := by
        have hm := List.mem_of_getElem? hx
        simp only [List.mem_cons, List.not_mem_nil, or_false] at hm
        rcases hm with rfl | rfl
        · exact ⟨x, rfl⟩
        · exact ⟨y, rfl⟩
      exact ⟨_, rfl, tnil (count_int (by omega) (hq _ _ (Same.refl _) (.bl true)))⟩
    rintro H1 ys s1 eD hall
    have hys : ys = (List.replicate 2 true).map V.bl := DpAll.boolsE (by rw [List.map_replicate]; exact hall)
    refine ⟨D, List.replicate 2 true, rfl, SqL.of (by rw [eD, hys]), _, rfl, iteF ?_⟩
    have hb1 := Same.tup s1 hb
    have hp1 := hp.same s1
    have hu1 := hu.up s1
    obtain ⟨a, dx, R, Pt, rfl, ea, hR, hP⟩ := hp1.ex
    obtain ⟨pa, xs, rfl, hs, ha⟩ := hP.lstE
    obtain ⟨z, hz, hdz⟩ := ha.got (i := ph) (by rw [List.getElem?_map, rs_get hph]; rfl)
    obtain ⟨t, rfl, ht⟩ := pair_at hdz
    obtain ⟨ra, rx, rfl, hsr, har⟩ := hR.lstE
    obtain ⟨z2, hz2, hdz2⟩ := har.got (i := ph) (by rw [List.getElem?_map, rs_get hph]; rfl)
    refine ⟨_, rfl, a, C, dx, _, _, rfl, ea, G.I.cl, G.nP, rfl, _, rfl, pa, xs, _, .ref t, rfl, rfl, hs, atI_nat hz, t, _, rfl, ht, rfl, _, _, rfl, _, _, rfl, rfl, ?_⟩
    refine ⟨_, rfl, b, _, _, _, rfl, rfl, hb1, rfl, _, rfl, _, _, rfl, rfl, _, rfl, ?_⟩
    rw [decide_eq_false (show ¬ ((Pm.wid (Pm.rnd rs ph) 0 : Nat) : Int) ≤ (x : Int) by have : x < Pm.wid (Pm.rnd rs ph) 0 := hx; omega)]
    refine iteF ?_
    refine ⟨_, rfl, b, _, _, _, rfl, rfl, hb1, rfl, _, rfl, _, _, rfl, rfl, _, rfl, ?_⟩
    rw [decide_eq_false (show ¬ ((Pm.wid (Pm.rnd rs ph) 1 : Nat) : Int) ≤ (y : Int) by have : y < Pm.wid (Pm.rnd rs ph) 1 := hy; omega)]
    refine iteF ?_
    exact ⟨_, rfl, a, C, dx, _, _, rfl, ea, G.I.cl, G.nR, rfl, _, rfl, ra, rx, _, z2, rfl, rfl, hsr, atI_nat hz2, _, rfl, z2, _, _, x, y, rfl, hdz2, hp.ok.rnd ph, hu1, fun H' s' => q H' (s1.trans s')⟩
/-! signs_of -/
/-- the name of a cell's number pair -/
theorem name_back {rs : List (List Pm.Cut)} (hok : Pm.RdsOk rs) {ns : List Nat} (h : NmOk rs ns) : Pm.name rs ns.length (Pm.nm rs 0 (fun k => ns.getD k 0) ns.length) (Pm.nm rs 1 (fun k => ns.getD k 0) ns.length) = ns := Pm.name_nm hok h
theorem NmOk.name {rs : List (List Pm.Cut)} (hok : Pm.RdsOk rs) (f x y : Nat) : NmOk rs (Pm.name rs f x y) := fun k hk => hok.name_ok f x y k (by rwa [Pm.name_len] at hk)
end
end T
set_option Elab.async false
set_option maxRecDepth 100000
set_option maxHeartbeats 4000000
namespace T
open PySem L2 Mv
abbrev s_turned : Stmt := inClass (top 32) 15
theorem sc_turned : FnScope ["self", "rounds", "axis", "parts", "cuts"] ["self"] (defScope s_turned) := ⟨rfl, rfl, rfl, by decide +kernel, rfl, by decide +kernel, by decide +kernel⟩
section
variable {P : Program} {w : World} {K : PySem.W.Frag} {mg : Str → Option Value} {base : Heap} {C AX : Addr}
def sp_turned (K : PySem.W.Frag) (C : Addr) : Sp := fun vs H Q _ => ∃ (v : V) (rs : List (List Pm.Cut)), vs = [v] ∧ PlanAt K C H v rs ∧ ∀ u H', Same H H' → PlanAt K C H' u (Pm.turn rs) → Q u H'
theorem c_turned {K : PySem.W.Frag} {C : Addr} {v : V} {rs : List (List Pm.Cut)} {H : Hp} {Q : VK} {E : XK} (h0 : PlanAt K C H v rs) (q : ∀ u H', Same H H' → PlanAt K C H' u (Pm.turn rs) → Q u H') : sp_turned K C [v] H Q E := ⟨_, _, rfl, h0, q⟩
theorem tu_str {c : Pm.Cut} (h : Pm.CutOk c) : (if decide (V.str (axn c.1) = V.str "east") = true then V.str "north" else V.str "east") = V.str (axn (Pm.tu c).1) := by
  obtain ⟨a, p⟩ := c
  have : a = 0 ∨ a = 1 := by have := h.1; simp at this; omega
  rcases this with rfl | rfl
  · rfl
  · rfl
theorem ok_turned {f : Addr} {fd : FuncData} (F : Df K "turned" "Plan.turned" s_turned [] f fd) (G : PlG K mg C AX) (cPl : MaR P w K mg base 6 "Plan" C (spMk K C)) : FnOk P w K mg base CX0 8 f fd ["self"] (sp_turned K C) := by
  refine dfOk F sc_turned (fun vs H Q E h => ?_) (fun cdv A outer s H vs Q E hr h => ?_)
  · obtain ⟨v, rs, rfl, _⟩ := h
    rfl
  · obtain ⟨v, rs, rfl, hp, q⟩ := h
    have hok := hp.ok
    obtain ⟨a, dx, R, Pt, rfl, ea, hR, hP⟩ := hp.ex
    obtain ⟨ra, rx, rfl, hsr, har⟩ := hR.lstE
    have hlen : rx.length = rs.length := by rw [har.len, List.length_map]
    have l3 := hok.2.1
    refine ⟨_, (pss_cons (ps_setLc (i := 1) (own := [("cuts", 4)]) (by rfl) sc_turned.nd rfl rfl (sw_true rfl rfl rfl (by decide +kernel)) (pi_list (pe_fld (pv 0) rfl)) (blkOk_by (own := [("cuts", 4)]) (N := ["self", "rounds", "axis", "parts", "cuts"]) (sc := defScope s_turned) (by decide +kernel)) (fun _ _ _ _ _ => (pg_name (i := 4) sc_turned.nd rfl (Or.inl rfl))) (fun _ _ _ _ _ => pts_nil) (fun _ _ _ _ _ => (pe_lc (own := [("axis", 2), ("parts", 3)]) (by rfl) sc_turned.nd (pi_list' (pv 4)) (blkOk_by (own := [("axis", 2), ("parts", 3)]) (N := ["self", "rounds", "axis", "parts", "cuts"]) (by kernel_rfl)) (fun _ _ _ _ _ => (pg_tup' 2 (pgs_cons (pg_name (i := 2) sc_turned.nd rfl (Or.inl rfl)) (pgs_cons (pg_name (i := 3) sc_turned.nd rfl (Or.inl rfl)) pgs_nil)))) (fun _ _ _ _ _ => pts_nil) (fun _ _ _ _ _ => (pe_tup (pa_cons (pe_ifExp (pt_cmpR op_eq (pv 2) (pe_globS G.east (by rfl)) (nomark _)) (pe_globS G.north (by rfl)) (pe_globS G.east (by rfl))) (pa_cons (pv 3) pa_nil)))))))
  (pss_one (ps_ret (pe_marS cPl hr (by decide) (by rfl) (pv 1))))), ?_⟩
    refine ⟨_, rfl, a, C, dx, _, _, rfl, ea, G.I.cl, G.nR, rfl, ra, rfl, ⟨_, hsr⟩, fun D hD => lc_ll (K := K) (walk_list (xs := rx)) ((Pm.turn rs).map fun r => r.map pCut) (by simp [Pm.turn]; omega) (by omega) (fun e he => ?_) hD (fun H' s' => s'.seq hsr) ?_ ?_ gName_mono⟩
    · obtain ⟨r, _, rfl⟩ := List.mem_map.mp he
      exact NLs.map _ NL.pCut r
    · rintro i e x H1 _ Q1 hi he s1 ⟨rfl, hx⟩ hq
      refine ⟨rfl, ?_⟩
      obtain ⟨d, hd1, hd2⟩ := (har.up s1).get hx
      rw [List.getElem?_map] at hd1
      obtain ⟨r, hr1, rfl⟩ := Option.map_eq_some_iff.mp hd1
      have he' : e = (r.map Pm.tu).map pCut := by
        rw [List.getElem?_map] at he
        unfold Pm.turn at he
        rw [List.getElem?_map, hr1] at he
        exact (Option.some.inj he).symm
      subst he'
      have hro := hok.2.2.1 r (List.mem_of_getElem? hr1)
      obtain ⟨c0, zs, rfl, hs, ha⟩ := Dp.lstE hd2
      have hzl : zs.length = r.length := by rw [ha.len]; simp
      have hr5 := hro.2.1
      refine ⟨_, rfl, c0, rfl, ⟨_, hs⟩, fun D2 hD2 => lc_nl (K := K) (walk_list (xs := zs)) ((r.map Pm.tu).map pCut) (by simp; omega) (by omega) (NLs.map _ NL.pCut _) hD2 (fun H' s' => s'.seq hs) ?_ ?_ gTup2_mono⟩
      · rintro j e y Hx H2 Q2 hj he2 s2 ⟨e22, hy⟩ hq2
        subst e22
        obtain ⟨d, hd1, hd2⟩ := (ha.up s2).get hy
        rw [List.getElem?_map] at hd1
        obtain ⟨c, hc1, rfl⟩ := Option.map_eq_some_iff.mp hd1
        have he3 : e = pCut (Pm.tu c) := by
          rw [List.getElem?_map, List.getElem?_map, hc1] at he2
          exact (Option.some.inj he2).symm
        subst he3
        obtain ⟨t, rfl, ht⟩ := cut_at hd2
        have hc := hro.2.2.1 c (List.mem_of_getElem? hc1)
        refine ⟨t, _, rfl, ht, rfl, _, _, rfl, _, _, rfl, rfl, rfl, ?_⟩
        have key : ∀ v, v = V.str (axn (Pm.tu c).1) → ∀ t2, H2 t2 = none → Q2 (.ref t2) (upd H2 t2 (.tup [v, .int c.2])) := fun v ev t2 ht2 => by
          subst ev
          exact hq2 _ _ (same_new ht2) (.tup (SqT.of upd_same) (.cons (.str _) (.cons (.int _) .nil)))
        have e3 := tu_str hc
        refine ⟨_, rfl, rfl, _, rfl, ite2 (fun h => ?_) (fun h => ?_)⟩
        · rw [if_pos h] at e3
          exact ⟨_, rfl, by show 2 ≤ sizeLine; decide, key _ e3⟩
        · rw [if_neg h] at e3
          exact ⟨_, rfl, by show 2 ≤ sizeLine; decide, key _ e3⟩
      · rintro H2 ys2 s2 eD2 hall2
        exact hq D2 ys2 H2 s2 hD2 eD2 hall2
    · rintro H1 ys s1 eD hall
      have ers : ((Pm.turn rs).map fun r => (true, r)).map Prod.snd = Pm.turn rs := by rw [List.map_map]; exact List.map_id _
      refine ⟨_, rfl, D, ys, rfl, .inr (SqL.of eD), ?_⟩
      refine mk_plan (brs := (Pm.turn rs).map fun r => (true, r)) ?_ (ers.symm ▸ hok.turn) fun u H' s' pa => q u H' (s1.trans s') (ers ▸ pa)
      unfold pPass
      rw [List.map_map] at hall ⊢
      exact hall
end
end T
set_option Elab.async false
set_option maxRecDepth 100000
set_option maxHeartbeats 4000000
namespace HT
open PySem PySem.Spec PyProof.Rows
section
variable {prog : Program} {w : World} {A : Around} {E : Value → Shared → Prop} {s : Shared}
/-- t[::-1] of a tuple -/
theorem getItem_tuple_rev {t sl : Addr} {items : Array Value} {vl vu vs : Value} {Q : Value → Shared → Prop} (ht : IsTup s.heap t items) (hs : s.heap.IsSliceOf sl vl vu vs) (pl : IsPart vl none) (pu : IsPart vu none) (ps : IsPart vs (some (-1)))
    (h : Q (.ref s.heap.objs.size) { s with heap := s.heap.push { cls := .type "tuple", data := .seq items.toList.reverse.toArray } })
    (hsz : items.size ≤ sizeLine) : wpAny (model prog w) A (getItem (.ref t) (.ref sl)) Q E s := by
  have htake : sizeOk (.seq items.toList.reverse.toArray) := by
    show items.toList.reverse.toArray.size ≤ sizeLine
    simpa using hsz
  obtain ⟨os, hos, hcs, hds⟩ := id hs
  have hTs : s.TypeIs (.ref sl) "slice" := ⟨os, hos, hcs⟩
  unfold getItem
  try with_reducible refine wpAny_holding ?_
  first | refine wpAny_bind (wpAny_pure ?_) | skip
  refine wpAny_bind (wpAny_sequenceKey ht.typeIs (by decide) ?_)
  refine wpAny_bind (wpAny_callSpecial?_slot (name := Str.ofString "__getitem__") ht.typeIs PyProof.Rows.slot_tuple_getitem
    (wpAny_call_entry PyProof.Rows.slot_tuple_getitem ht.typeIs entry_tuple_getitem ?_ (args_tuple_getitem _ _)))
  show wpAny _ _ (Builtin.Tuple.tupleItemsOf (.ref t) >>= _) _ _ s
  refine wpAny_bind (tupleItemsOf_ ht ?_)
  refine wpAny_bind (wpAny_typeOf hTs ?_)
  rw [if_pos (by decide)]
  have ap : ∀ {Q : Int × Int × Nat → Shared → Prop} {E : Value → Shared → Prop} {A : Around}, Q (((items.size : Nat) : Int) - 1, -1, items.size) s → wpAny (model prog w) A (Builtin.Slice.sliceApplied (.ref sl) (pure (items.size : Int))) Q E s := by
    intro Q E A h
    unfold Builtin.Slice.sliceApplied Builtin.Slice.sliceFields
    refine wpAny_bind (wpAny_bind (wpAny_field hos hds (x := vl) rfl (wpAny_bind (wpAny_field hos hds (x := vu) rfl (wpAny_bind (wpAny_field hos hds (x := vs) rfl (wpAny_pure ?_)))))))
    refine wpAny_bind (slicePart_ ps ?_)
    show wpAny _ _ (if ((-1 : Int) == 0) = true then _ else _) _ _ s
    rw [if_neg (by decide)]
    refine wpAny_bind (slicePart_ pl (wpAny_bind (slicePart_ pu (wpAny_bind (wpAny_pure ?_)))))
    show wpAny _ _ (pure (((items.size : Nat) : Int) - 1, (-1 : Int), Builtin.Slice.slicePlaces (((items.size : Nat) : Int) - 1) (-1) (-1))) _ _ s
    have e : Builtin.Slice.slicePlaces (((items.size : Nat) : Int) - 1) (-1) (-1) = items.size := by
      unfold Builtin.Slice.slicePlaces
      rw [if_neg (by decide)]
      by_cases h0 : ((items.size : Nat) : Int) - 1 > -1
      · rw [if_pos h0, show (- -1 : Int) = 1 by decide, Int.ediv_one]
        omega
      · rw [if_neg h0]
        omega
    rw [e]
    exact wpAny_pure h
  refine wpAny_bind (ap ?_)
  show wpAny _ _ (if ((((items.size : Nat) : Int) - 1) == 0 && (-1 : Int) == 1 && items.size == items.size) = true then _ else _) _ _ s
  rw [if_neg (by simp)]
  have pk : ((List.range items.size).filterMap fun (k : Nat) => items[(((items.size : Nat) : Int) - 1 + (k : Int) * (-1)).toNat]?).toArray = items.toList.reverse.toArray := by
    have := PySem.W.krv_pick items
    unfold slicePick at this
    rw [← this, PySem.W.krv_bounds]
    show _ = ((sliceRange ((items.size : Int) - 1) (-1) (-1)).filterMap (items[·]?)).toArray
    rw [PySem.W.krv_sliceRange, List.filterMap_map]
    congr 1
    have cg : ∀ (l : List Nat) (f g : Nat → Option Value), (∀ k ∈ l, f k = g k) → l.filterMap f = l.filterMap g := by
      intro l f g h
      induction l with
      | nil => rfl
      | cons a l ih => rw [List.filterMap_cons, List.filterMap_cons, h a (List.mem_cons_self ..), ih fun k hk => h k (List.mem_cons_of_mem _ hk)]
    refine cg _ _ _ fun k hk => ?_
    have := List.mem_range.mp hk
    show items[_]? = items[items.size - 1 - k]?
    congr 1
    omega
  rw [pk]
  first
    | exact wpAny_bind (m := Builtin.Tuple.tupleExact _) (wpAny_newObj_type (wpAny_pure ⟨_, rfl, wpAny_pure h⟩) htake)
    | exact wpAny_bind (m := Builtin.Tuple.tupleExact _) (wpAny_newObj_type (wpAny_bind (wpAny_pure (wpAny_pure ⟨_, rfl, wpAny_pure h⟩))) htake)
    | exact wpAny_bind (wpAny_bind (m := Builtin.Tuple.tupleExact _) (wpAny_newObj_type (wpAny_pure (wpAny_pure ⟨_, rfl, wpAny_pure h⟩)) htake))
    | exact wpAny_bind (wpAny_bind (m := Builtin.Tuple.tupleExact _) (wpAny_newObj_type (wpAny_pure ⟨_, rfl, wpAny_pure h⟩) htake))
end
end HT
namespace Mv
open PySem PySem.Spec PyProof.Rows L2
/-- t[::-1] of a tuple: a new tuple -/
def tRevT (K : PySem.W.Frag) (te : TE) : TE := fun σ H Q => te σ H fun x H1 => ∃ a xs, x = .ref a ∧ SqT K H1 a xs ∧ ∀ p, H1 p = none → Q (.ref p) (upd H1 p (.tup xs.reverse))
theorem pe_revT {X : Cx} {e : Expr} {te : TE} {k : Nat} {p1 p2 p3 pos : Pos} (he : PE X e te) : PE X (.Subscript e (.Slice none none (some (.UnaryOp .USub (.Constant (.int 1) k p1) p2)) p3) pos) (tRevT X.K te) := by
  refine ⟨fun pins s σ H Q I h => ?_⟩
  refine Subscript_ (thn (he.run pins s σ H _ I h) fun v s1 ⟨x, H1, I1, r1, q1⟩ => ?_)
  obtain ⟨a, xs, ex, hx, q⟩ := q1
  subst ex
  cases r1
  have hst : PO X (some (.UnaryOp .USub (.Constant (.int 1) k p1) p2)) (tPart (tUn (rU fun i => .int (-i)) (tC (.int 1)))) := po_some (pe_un un_neg pe_int)
  refine wpAny_Slice (thn (po_none.run pins s1 σ H1 (fun o H2 => o = none ∧ H2 = H1) I1 ⟨rfl, rfl⟩) fun vl s2 ⟨l, H2, I2, pl, el, e2⟩ => ?_)
  subst el e2
  refine thn (po_none.run pins s2 σ H2 (fun o H3 => o = none ∧ H3 = H2) I2 ⟨rfl, rfl⟩) fun vu s3 ⟨u, H3, I3, pu, eu, e3⟩ => ?_
  subst eu e3
  refine thn (hst.run pins s3 σ H3 (fun o H4 => o = some (-1) ∧ H4 = H3) I3 ⟨1, rfl, -1, rfl, rfl, rfl⟩) fun vs s4 ⟨o, H4, I4, ps, eo, e4⟩ => ?_
  subst eo e4
  have I5 : Inv X pins σ H4 { s4 with heap := s4.heap.push { cls := .type "slice", data := .fields #[vl, vu, vs] } } := I4.kept (t' := s4.toks) fun b ob q => Heap.get?_push_of_some _ q
  obtain ⟨its, r, ht, hz⟩ := I5.tuple hx
  have hlen := r.length
  show wpAny (model X.prog X.w) X.A (subscriptTail e (.Slice none none (some (.UnaryOp .USub (.Constant (.int 1) k p1) p2)) p3) (.ref a) (.ref s4.heap.objs.size)) (EP X pins σ Q) X.xe { s4 with heap := s4.heap.push { cls := .type "slice", data := .fields #[vl, vu, vs] } }
  refine tail_any (ops := [.ref a, .ref s4.heap.objs.size]) ht.typeIs (PyProof.Rows.slot_tuple_getitem.lookup) ?_ (by with_unfolding_all rfl)
  refine HT.getItem_tuple_rev ht (Heap.IsSliceOf.new _ vl vu vs) pl pu ps ?_ (by rw [List.size_toArray]; omega)
  refine ⟨.ref _, _, I5.laid (t' := s4.toks) (o := .tup xs.reverse) (fun b ob q => Heap.get?_push_of_some _ q) (Nat.le_refl _) ?_, rfl, q _ (I5.hok.fresh (Nat.le_refl _))⟩
  refine ⟨by rw [List.length_reverse]; exact hz, _, r.reverse, ?_⟩
  exact IsTup.new _ _
end Mv
set_option Elab.async false
set_option maxRecDepth 100000
set_option maxHeartbeats 4000000
namespace Mv
open PySem PySem.Spec PyProof.Rows L2
/-- a def that an operator of the class at C finds -/
structure Op3 (P : Program) (w : World) (K : PySem.W.Frag) (mg : Str → Option Value) (base : Heap) (k : Nat) (C : Addr) (m : Str) (sp : Sp) : Prop where
  ex : ∃ (g : Addr) (fd : FuncData) (ps : List Str), FnOk P w K mg base CX0 k g fd ps sp ∧ Binds K fd ps [] ∧ PySem.W.findIn K (.ref C) m = some (some (.ref g)) ∧ PySem.W.isFn K (.ref g) = true ∧ PySem.W.fnIn K g = true
  sf : PySem.W.selfFirst K C = true
  ns : PySem.W.noSeq K C = true
section
variable {X : Cx} {k : Nat} {C : Addr} {sp : Sp} {m : Str}
/-- x op= y, x an instance with its own method -/
def rInst (C : Addr) (sp : Sp) : R2 := fun x y H Q => ∃ a dx fs, x = .ref a ∧ H a = some (.ins C dx fs) ∧ sp [x, y] H Q E0
theorem ip_own {op : Operator} (c : Op3 X.prog X.w X.K X.mg X.base k C m sp) (hr : Room k X.A) (hm : PySem.dunderI op.info.2 = m := by decide +kernel) : PIp X op (rInst C sp) := by
  obtain ⟨g, fd, ps, F, hb, hs, hf, _⟩ := c.ex
  intro pins s σ H x y v u Q I rx ry h
  obtain ⟨a, dx, fs, rfl, ea, q⟩ := h
  obtain rfl : v = Value.ref a := rx
  obtain ⟨mA, O, _⟩ := ins_get I.hok ea
  obtain ⟨od, J, _⟩ := O.look
  obtain ⟨mm, hF⟩ := I.fr
  subst hm
  refine PySem.W.ksp_inplace hF I.ok.mod.kin J c.sf hs hf ?_
  refine wpAny_mono (run_at (vs := [.ref a, y]) F hr I.ok.frames hb I (.cons rfl (.cons ry .nil)) q) (fun w s' z => ?_) fun _ _ x => x
  obtain ⟨z', H', I', rz, qz⟩ := z
  exact SlX.cmpback rz ⟨z', H', I', rz, qz⟩
/-- x op y of two instances of one class -/
def rBinO (K : PySem.W.Frag) (C : Addr) (sp : Sp) : R2 := fun x y H Q => ∃ a dx fs, x = .ref a ∧ H a = some (.ins C dx fs) ∧ TyX K H y (.ref C) ∧ sp [x, y] H Q E0
theorem op_binO {op : Operator} (c : Op3 X.prog X.w X.K X.mg X.base k C m sp) (hr : Room k X.A) (hm : PySem.dunder op.info.2 = m := by decide +kernel) : OpR X (binaryOp op) (rBinO X.K C sp) := by
  obtain ⟨g, fd, ps, F, hb, hs, hf, _⟩ := c.ex
  intro pins s σ H x y v u Q I rx ry h
  obtain ⟨a, dx, fs, rfl, ea, ty, q⟩ := h
  obtain rfl : v = Value.ref a := rx
  obtain ⟨mA, O, _⟩ := ins_get I.hok ea
  obtain ⟨od, J, _⟩ := O.look
  obtain ⟨mm, hF⟩ := I.fr
  obtain ⟨P, kx, hP, _⟩ := kit_of I ry ty
  subst hm
  refine PySem.W.binop_K hF I.ok.mod.kin J (kx.ty _ _ I.kIn hP) c.sf hs hf ?_
  refine wpAny_mono (run_at (vs := [.ref a, y]) F hr I.ok.frames hb I (.cons rfl (.cons ry .nil)) q) (fun w s' z => ?_) fun _ _ x => x
  obtain ⟨z', H', I', rz, qz⟩ := z
  exact SlX.cmpback rz ⟨z', H', I', rz, qz⟩
/-- x op i, i an int -/
def rBinI (C : Addr) (sp : Sp) : R2 := fun x y H Q => ∃ a dx fs i, x = .ref a ∧ y = .int i ∧ H a = some (.ins C dx fs) ∧ sp [x, y] H Q E0
theorem op_binI {op : Operator} {fo ro rc : Option Value} (c : Op3 X.prog X.w X.K X.mg X.base k C m sp) (hr : Room k X.A) (hr2 : PySem.W.findIn X.K (.ref C) (PySem.dunderR op.info.2) = some rc) (hp : rc = none ∨ ∃ g : Addr, rc = some (.ref g))
    (h1 : PySem.W.findIn X.K (.type "int") (PySem.dunder op.info.2) = some fo) (h2 : PySem.W.findIn X.K (.type "int") (PySem.dunderR op.info.2) = some ro) (hsub : PySem.W.subIn X.K (.type "int") (.ref C) = some false) (hm : PySem.dunder op.info.2 = m := by decide +kernel) : OpR X (binaryOp op) (rBinI C sp) := by
  obtain ⟨g, fd, ps, F, hb, hs, hf, _⟩ := c.ex
  intro pins s σ H x y v u Q I rx ry h
  obtain ⟨a, dx, fs, i, rfl, rfl, ea, q⟩ := h
  obtain rfl : v = Value.ref a := rx
  obtain ⟨mA, O, _⟩ := ins_get I.hok ea
  obtain ⟨od, J, _⟩ := O.look
  obtain ⟨mm, hF⟩ := I.fr
  have ry' := ry
  obtain ⟨tk, rfl⟩ := ry'
  subst hm
  refine PySem.W.ksp_binT (T := "int") hF I.ok.mod.kin J rfl c.sf hs hf hr2 hp h1 h2 hsub ?_
  refine wpAny_mono (run_at (vs := [.ref a, .int i]) F hr I.ok.frames hb I (.cons rfl (.cons ry .nil)) q) (fun w s' z => ?_) fun _ _ x => x
  obtain ⟨z', H', I', rz, qz⟩ := z
  exact SlX.cmpback rz ⟨z', H', I', rz, qz⟩
/-- - x -/
def rNegO (C : Addr) (sp : Sp) : V → Hp → VK → Prop := fun x H Q => ∃ a dx fs, x = .ref a ∧ H a = some (.ins C dx fs) ∧ sp [x] H Q E0
theorem un_negO (c : Op3 X.prog X.w X.K X.mg X.base k C "__neg__" sp) (hr : Room k X.A) : UnR X (unaryOp .USub) (rNegO C sp) := by
  obtain ⟨g, fd, ps, F, hb, hs, hf, _⟩ := c.ex
  intro pins s σ H x v Q I rx h
  obtain ⟨a, dx, fs, rfl, ea, q⟩ := h
  obtain rfl : v = Value.ref a := rx
  obtain ⟨mA, O, _⟩ := ins_get I.hok ea
  obtain ⟨od, J, _⟩ := O.look
  obtain ⟨mm, hF⟩ := I.fr
  refine PySem.W.ksp_neg hF I.ok.mod.kin J hs hf ?_
  exact run_at (vs := [.ref a]) F hr I.ok.frames hb I (.cons rfl .nil) q
/-- x[i] by an own __getitem__ -/
theorem pe_ixO {a b : Expr} {ta tb : TE} {pos : Pos} (c : Op3 X.prog X.w X.K X.mg X.base k C "__getitem__" sp) (hr : Room (k + 1) X.A) (ha : PE X a ta) (hb : PE X b tb)
    (hsl : ∀ (x : Addr) (u : Value), subscripted b true (.ref x) u = runValue (.builtin "lifetime.subscript" ⟨[.ref x, u], []⟩) := by intros; with_unfolding_all rfl) : PE X (.Subscript a b pos) (tOp (rInst C sp) ta tb) := by
  obtain ⟨g, fd, ps, F, hbn, hs, hf, hfn⟩ := c.ex
  refine ⟨fun pins s σ H Q I h => ?_⟩
  refine Subscript_ (binT ha hb I h fun v u s2 x y H2 I2 rx ry q => ?_)
  obtain ⟨p, dx, fs, rfl, ea, q⟩ := q
  obtain rfl : v = Value.ref p := rx
  obtain ⟨mA, O, _⟩ := ins_get I2.hok ea
  obtain ⟨od, J, _⟩ := O.look
  obtain ⟨mm, hF⟩ := I2.fr
  refine PySem.W.sub_K hF I2.ok.mod.kin J hs hfn hf ?_ (hsl p u)
  exact run_at (vs := [.ref p, y]) F hr.in1 I2.ok.frames hbn I2 (.cons rfl (.cons ry .nil)) q
/-- x[i] = v by an own __setitem__ -/
theorem set_own (c : Op3 X.prog X.w X.K X.mg X.base k C "__setitem__" sp) (hr : Room k X.A) : PSet X (fun o i v H Q => ∃ a dx fs, o = .ref a ∧ H a = some (.ins C dx fs) ∧ sp [o, i, v] H (fun _ H' => Q H') E0) := by
  obtain ⟨g, fd, ps, F, hb, hs, hf, _⟩ := c.ex
  intro pins s σ H o i v ov iv u Q I ro ri rv h
  obtain ⟨a, dx, fs, rfl, ea, q⟩ := h
  obtain rfl : ov = Value.ref a := ro
  obtain ⟨mA, O, _⟩ := ins_get I.hok ea
  obtain ⟨od, J, _⟩ := O.look
  obtain ⟨mm, hF⟩ := I.fr
  refine PySem.W.ksp_setItem hF I.ok.mod.kin J c.ns hs hf ?_
  refine wpAny_mono (run_at (vs := [.ref a, i, v]) F hr I.ok.frames hb I (.cons rfl (.cons ri (.cons rv .nil))) q) (fun w s' z => ?_) fun _ _ x => x
  obtain ⟨z', H', I', rz, qz⟩ := z
  exact ⟨H', I', qz⟩
end
section
variable {X : Cx} {P : Program} {w : World} {K : PySem.W.Frag} {mg : Str → Option Value} {base : Heap} {k j : Nat} {C : Addr} {sp : Sp} {m : Str}
theorem ip_own' {op : Operator} (c : Op3 P w K mg base k C m sp) (hr : Room j X.A) (hk : k ≤ j) (hm : PySem.dunderI op.info.2 = m := by decide +kernel) (e : Over X P w K mg base := by exact ⟨rfl, rfl, rfl, rfl, rfl⟩) : PIp X op (rInst C sp) := by
  obtain ⟨rfl, rfl, rfl, rfl, rfl⟩ := e
  exact ip_own c (hr.mono hk) hm
theorem op_binO' {op : Operator} (c : Op3 P w K mg base k C m sp) (hr : Room j X.A) (hk : k ≤ j) (hm : PySem.dunder op.info.2 = m := by decide +kernel) (e : Over X P w K mg base := by exact ⟨rfl, rfl, rfl, rfl, rfl⟩) : OpR X (binaryOp op) (rBinO K C sp) := by
  obtain ⟨rfl, rfl, rfl, rfl, rfl⟩ := e
  exact op_binO c (hr.mono hk) hm
theorem un_negO' (c : Op3 P w K mg base k C "__neg__" sp) (hr : Room j X.A) (hk : k ≤ j) (e : Over X P w K mg base := by exact ⟨rfl, rfl, rfl, rfl, rfl⟩) : UnR X (unaryOp .USub) (rNegO C sp) := by
  obtain ⟨rfl, rfl, rfl, rfl, rfl⟩ := e
  exact un_negO c (hr.mono hk)
theorem pe_ixO' {a b : Expr} {ta tb : TE} {pos : Pos} (c : Op3 P w K mg base k C "__getitem__" sp) (hr : Room j X.A) (hk : k + 1 ≤ j) (ha : PE X a ta) (hb : PE X b tb)
    (hsl : ∀ (x : Addr) (u : Value), subscripted b true (.ref x) u = runValue (.builtin "lifetime.subscript" ⟨[.ref x, u], []⟩) := by intros; with_unfolding_all rfl) (e : Over X P w K mg base := by exact ⟨rfl, rfl, rfl, rfl, rfl⟩) : PE X (.Subscript a b pos) (tOp (rInst C sp) ta tb) := by
  obtain ⟨rfl, rfl, rfl, rfl, rfl⟩ := e
  exact pe_ixO c (hr.mono hk) ha hb hsl
theorem set_own' (c : Op3 P w K mg base k C "__setitem__" sp) (hr : Room j X.A) (hk : k ≤ j) (e : Over X P w K mg base := by exact ⟨rfl, rfl, rfl, rfl, rfl⟩) : PSet X (fun o i v H Q => ∃ a dx fs, o = .ref a ∧ H a = some (.ins C dx fs) ∧ sp [o, i, v] H (fun _ H' => Q H') E0) := by
  obtain ⟨rfl, rfl, rfl, rfl, rfl⟩ := e
  exact set_own c (hr.mono hk)
end
end Mv
set_option Elab.async false
set_option maxRecDepth 100000
set_option maxHeartbeats 4000000
/-! Readings step by step, led by the goal's head: each go_x takes one combinator away. Facts are carried to a later heap by the up_x. -/
namespace Mv
open PySem PySem.Spec PyProof.Rows L2
section
variable {X : Cx} {K : PySem.W.Frag}
theorem op_catA' (e : X.K = K := by (conv => lhs; whnf)) : OpR X (binaryOp .Add) (rCatA K) := by
  subst e
  exact op_catA
theorem sl_list' (e : X.K = K := by (conv => lhs; whnf)) : SlR X (rSlL K) := by
  subst e
  exact sl_list
theorem pe_fld' {a : Expr} {f : Str} {pos : Pos} {ta : TE} (he : PE X a ta) (hb : attributeBase a f X.env (eval a X.env) = eval a X.env) (e : X.K = K := by (conv => lhs; whnf)) : PE X (.Attribute a f pos) (tFld K ta f) := by
  subst e
  exact pe_fld he hb
theorem cr_all' (hc : X.calm = true) (e : X.K = K := by (conv => lhs; whnf)) : CallR X (.builtin "all") (rAll K) := by
  subst e
  exact cr_all hc
theorem cr_any' (hc : X.calm = true) (e : X.K = K := by (conv => lhs; whnf)) : CallR X (.builtin "any") (rAny K) := by
  subst e
  exact cr_any hc
end
/-- a value that is a bool, an int -/
def AsB (Q : Bool → Hp → Prop) : VK := fun x H => ∃ c, x = .bl c ∧ Q c H
def AsI (Q : Int → Hp → Prop) : VK := fun x H => ∃ i, x = .int i ∧ Q i H
def Par2 (i j : Nat) (n : L2.St → Hp → Prop) (σ : L2.St) : List V → Hp → Prop := fun vs H1 => ∃ v w, vs = [v, w] ∧ n ((σ.set i (some v)).set j (some w)) H1
/-- a new tuple, a new list -/
def NewT (Q : VK) : List V → Hp → Prop := fun xs H1 => xs.length ≤ sizeLine ∧ ∀ p, H1 p = none → Q (.ref p) (upd H1 p (.tup xs))
def NewL (Q : VK) : List V → Hp → Prop := fun xs H1 => xs.length ≤ sizeLine ∧ ∀ p, H1 p = none → Q (.ref p) (upd H1 p (.lst xs))
def MeR (C : Addr) (m : Str) (sp : Sp) (dvs : List V) (E : XK) (t : TA) (σ : L2.St) (Q : VK) : VK := fun x H1 => ∃ a dx fs, x = .ref a ∧ H1 a = some (.ins C dx fs) ∧ fs.lookup m = none ∧ t σ H1 fun vs H2 => sp (x :: (vs ++ dvs)) H2 Q E
def PrR (C : Addr) (sp : Sp) (dvs : List V) (E : XK) (Q : VK) : VK := fun x H1 => ∃ a dx fs, x = .ref a ∧ H1 a = some (.ins C dx fs) ∧ sp (.ref a :: dvs) H1 Q E
def FlR (K : PySem.W.Frag) (f : Str) (Q : VK) : VK := fun x H1 => ∃ a C dx fs v, x = .ref a ∧ H1 a = some (.ins C dx fs) ∧ Cls K C ∧ NoAttr K C f ∧ fs.lookup f = some v ∧ Q v H1
theorem cutF (xs : List V) (k : Nat) : cutV xs (some (k : Int)) none = xs.drop k := by
  unfold cutV
  rw [HT.sIx_nat, HT.sIx_none]
  rcases Nat.le_total k xs.length with z | z
  · rw [Nat.min_eq_left z, List.take_of_length_le (by simp)]
  · rw [Nat.min_eq_right z, Nat.sub_self, List.take_zero, List.drop_eq_nil_of_le z]
theorem cutT (xs : List V) (k : Nat) : cutV xs none (some (k : Int)) = xs.take k := by
  unfold cutV
  rw [HT.sIx_nat, HT.sIx_none, List.drop_zero, Nat.sub_zero]
  rcases Nat.le_total k xs.length with z | z
  · rw [Nat.min_eq_left z]
  · rw [Nat.min_eq_right z, List.take_length, List.take_of_length_le z]
section
variable {K : PySem.W.Frag} {C : Addr} {f m : Str} {σ σ' : L2.St} {H H' : Hp} {Q : VK} {QB : Bool → Hp → Prop} {QL : List V → Hp → Prop} {QS n b c : L2.St → Hp → Prop} {v x y w : V} {vs xs ys dvs : List V} {ta tb tc te : TE} {t tr : TA} {tt tu : TT} {ts tu' : TS} {g : TG} {r r' : R2} {sp : Sp} {E : XK} {a p q : Addr}
theorem go_var {i : Nat} (h : σ[i]? = some (some v)) (q : Q v H) : tVar i σ H Q := ⟨v, h, q⟩
theorem go_start {N : List Str} {D : Ends} (e : start N vs = σ) (q : ts D σ H) : ts D (start N vs) H := e ▸ q
theorem go_c (q : Q v H) : tC v σ H Q := q
theorem go_cN {n : Nat} (q : Q (.int ((@OfNat.ofNat Nat n (instOfNatNat n) : Nat) : Int)) H) : tC (.int (@OfNat.ofNat Int n (@instOfNat n))) σ H Q := q
theorem go_op (q : ta σ H fun x H1 => tb σ H1 fun y H2 => r x y H2 Q) : tOp r ta tb σ H Q := q
theorem go_un {r : V → Hp → VK → Prop} (q : ta σ H fun x H1 => r x H1 Q) : tUn r ta σ H Q := q
theorem go_nil (q : QL [] H) : tNil σ H QL := q
theorem go_cons (q : ta σ H fun x H1 => tr σ H1 fun xs H2 => QL (x :: xs) H2) : tCons ta tr σ H QL := q
theorem go_cb {r : List V → Hp → VK → Prop} (q : t σ H fun vs H1 => r vs H1 Q) : tCB r t σ H Q := q
theorem go_call0 (q : t σ H fun vs H1 => sp vs H1 Q E) : tCall sp [] E t σ H Q := by
  show t σ H fun vs H1 => sp (vs ++ []) H1 Q E
  simpa only [List.append_nil] using q
theorem go_call (q : t σ H fun vs H1 => sp (vs ++ dvs) H1 Q E) : tCall sp dvs E t σ H Q := q
theorem go_kn {n m : Nat} {gV : List V → List V → List V} (q : t σ H fun zs H2 => zs.length = m ∧ sp (gV vs zs) H2 Q E0) : tCallKn n m sp gV vs t σ H Q := q
theorem go_meth (q : ta σ H (MeR C m sp dvs E t σ Q)) : tMeth C m sp dvs E ta t σ H Q := q
theorem go_prop (q : ta σ H (PrR C sp dvs E Q)) : tProp C sp dvs E ta σ H Q := q
theorem go_mer {dx : Addr} {fs : List (Str × V)} (h : H a = some (.ins C dx fs)) (hm : fs.lookup m = none) (q : t σ H fun vs H2 => sp (.ref a :: vs) H2 Q E) : MeR C m sp [] E t σ Q (.ref a) H := by
  refine ⟨a, dx, fs, rfl, h, hm, ?_⟩
  simpa only [List.append_nil] using q
theorem go_prr {dx : Addr} {fs : List (Str × V)} (h : H a = some (.ins C dx fs)) (q : sp [.ref a] H Q E) : PrR C sp [] E Q (.ref a) H := ⟨a, dx, fs, rfl, h, q⟩
theorem go_fld (q : ta σ H (FlR K f Q)) : tFld K ta f σ H Q := q
theorem go_flr {dx : Addr} {fs : List (Str × V)} (h : H a = some (.ins C dx fs)) (hc : Cls K C) (hn : NoAttr K C f) (hl : fs.lookup f = some v) (q : Q v H) : FlR K f Q (.ref a) H := ⟨a, C, dx, fs, v, rfl, h, hc, hn, hl, q⟩
theorem go_tup (q : t σ H (NewT Q)) : tTup t σ H Q := q
theorem go_lst (q : t σ H (NewL Q)) : tLst t σ H Q := q
theorem go_newt (hz : xs.length ≤ sizeLine) (q : ∀ p H', H p = none → Same H H' → H' p = some (.tup xs) → Q (.ref p) H') : NewT Q xs H := ⟨hz, fun p hp => q p _ hp (same_new hp) upd_same⟩
theorem go_newl (hz : xs.length ≤ sizeLine) (q : ∀ p H', H p = none → Same H H' → H' p = some (.lst xs) → Q (.ref p) H') : NewL Q xs H := ⟨hz, fun p hp => q p _ hp (same_new hp) upd_same⟩
theorem go_tb (q : ta σ H (AsB QB)) : tB ta σ H QB := q
theorem go_test (q : ta σ H (AsB QB)) : tTest ta σ H QB := q
theorem go_asb {k : Bool} (q : QB k H) : AsB QB (.bl k) H := ⟨k, rfl, q⟩
theorem go_asi {QI : Int → Hp → Prop} {i : Int} (q : QI i H) : AsI QI (.int i) H := ⟨i, rfl, q⟩
theorem go_and (q : tt σ H fun k H1 => if k = true then tu σ H1 QB else QB false H1) : tAnd tt tu σ H QB := q
theorem go_or (q : tt σ H fun k H1 => if k = true then QB true H1 else tu σ H1 QB) : tOr tt tu σ H QB := q
theorem go_not (q : tt σ H fun k H1 => QB (!k) H1) : tNot tt σ H QB := q
theorem go_andv (q : ta σ H (AsB fun k H1 => if k = true then tb σ H1 Q else Q (.bl false) H1)) : tAndV ta tb σ H Q := q
theorem go_orv (q : ta σ H (AsB fun k H1 => if k = true then Q (.bl true) H1 else tb σ H1 Q)) : tOrV ta tb σ H Q := q
theorem go_notv (q : ta σ H (AsB fun k H1 => Q (.bl (!k)) H1)) : tNotV ta σ H Q := q
theorem go_ife (q : tt σ H fun k H1 => if k = true then ta σ H1 Q else tb σ H1 Q) : tIf tt ta tb σ H Q := q
theorem go_chain (q : ta σ H fun x H1 => tb σ H1 fun y H2 => r x y H2 (AsB fun k H3 => if k = true then tc σ H3 fun w' H4 => r' y w' H4 Q else Q (.bl false) H3)) : tChain r r' ta tb tc σ H Q := q
theorem go_seq {rt : VK} (q : ts ⟨tu' ⟨n, rt, b, c⟩, rt, b, c⟩ σ H) : tSeq ts tu' ⟨n, rt, b, c⟩ σ H := q
theorem go_next {rt : VK} (q : n σ H) : tNext ⟨n, rt, b, c⟩ σ H := q
theorem go_drop {rt : VK} (q : te σ H fun _ H1 => n σ H1) : tDrop te ⟨n, rt, b, c⟩ σ H := q
theorem go_ret {rt : VK} (q : te σ H rt) : tRet te ⟨n, rt, b, c⟩ σ H := q
theorem go_retn {rt : VK} (q : rt .non H) : tRetN ⟨n, rt, b, c⟩ σ H := q
theorem go_ifs {D : Ends} (q : tt σ H fun k H1 => if k = true then ts D σ H1 else tu' D σ H1) : tIfS tt ts tu' D σ H := q
theorem go_asg {rt : VK} (q : te σ H fun x H1 => g x σ H1 n) : tAsg te g ⟨n, rt, b, c⟩ σ H := q
theorem go_gname {i : Nat} (e : σ.set i (some v) = σ') (q : QS σ' H) : gName i v σ H QS := by subst e; exact q
theorem go_par {i j : Nat} {rt : VK} (q : t σ H (Par2 i j n σ)) : tPar i j t ⟨n, rt, b, c⟩ σ H := q
theorem go_par2 {i j : Nat} (e : (σ.set i (some v)).set j (some w) = σ') (q : n σ' H) : Par2 i j n σ [v, w] H := by subst e; exact ⟨v, w, rfl, q⟩
theorem go_gtup {k : Nat} {gs : TGs} (h : SqT K H a xs) (hl : xs.length = k) (q : gs xs σ H QS) : gTup K k gs (.ref a) σ H QS := ⟨a, xs, rfl, h, hl, q⟩
theorem go_gnil (q : QS σ H) : gNil [] σ H QS := ⟨rfl, q⟩
theorem go_gcons {gs : TGs} (q : g v σ H fun σ' H' => gs vs σ' H' QS) : gCons g gs (v :: vs) σ H QS := ⟨v, vs, rfl, q⟩
/-! tests whose answer is known -/
theorem go_if1 {A B : Prop} (h : A) : if true = true then A else B := iteT h
theorem go_if0 {A B : Prop} (h : B) : if false = true then A else B := iteF h
theorem go_ift {c A B : Prop} [Decidable c] (hc : c) (h : A) : if decide c = true then A else B := by rw [decide_eq_true hc]; exact iteT h
theorem go_iff {c A B : Prop} [Decidable c] (hc : ¬ c) (h : B) : if decide c = true then A else B := by rw [decide_eq_false hc]; exact iteF h
theorem go_ifnt {c A B : Prop} [Decidable c] (hc : c) (h : B) : if (!decide c) = true then A else B := by rw [decide_eq_true hc]; exact iteF h
theorem go_ifnf {c A B : Prop} [Decidable c] (hc : ¬ c) (h : A) : if (!decide c) = true then A else B := by rw [decide_eq_false hc]; exact iteT h
theorem go_ifn1 {A B : Prop} (h : B) : if (!true) = true then A else B := iteF h
theorem go_ifn0 {A B : Prop} (h : A) : if (!false) = true then A else B := iteT h
/-! operators -/
variable {i j : Int} {m' n' : Nat}
theorem go_addN (q : Q (.int ((m' + n' : Nat) : Int)) H) : rI0 (fun i j => .int (i + j)) (.int (m' : Int)) (.int (n' : Int)) H Q := ⟨_, _, rfl, rfl, by rw [Int.natCast_add] at q; exact q⟩
theorem go_ltN (q : Q (.bl (decide (m' < n'))) H) : rI0 (fun i j => .bl (decide (i < j))) (.int (m' : Int)) (.int (n' : Int)) H Q := ⟨_, _, rfl, rfl, by show Q (.bl (decide ((m' : Int) < (n' : Int)))) H; rw [decide_eq_decide.mpr (Int.ofNat_lt (n := m') (m := n'))]; exact q⟩
theorem go_leN (q : Q (.bl (decide (m' ≤ n'))) H) : rI0 (fun i j => .bl (decide (i ≤ j))) (.int (m' : Int)) (.int (n' : Int)) H Q := ⟨_, _, rfl, rfl, by show Q (.bl (decide ((m' : Int) ≤ (n' : Int)))) H; rw [decide_eq_decide.mpr (Int.ofNat_le (m := m') (n := n'))]; exact q⟩
theorem go_gtN (q : Q (.bl (decide (n' < m'))) H) : rI0 (fun i j => .bl (decide (j < i))) (.int (m' : Int)) (.int (n' : Int)) H Q := ⟨_, _, rfl, rfl, by show Q (.bl (decide ((n' : Int) < (m' : Int)))) H; rw [decide_eq_decide.mpr (Int.ofNat_lt (n := n') (m := m'))]; exact q⟩
theorem go_geN (q : Q (.bl (decide (n' ≤ m'))) H) : rI0 (fun i j => .bl (decide (j ≤ i))) (.int (m' : Int)) (.int (n' : Int)) H Q := ⟨_, _, rfl, rfl, by show Q (.bl (decide ((n' : Int) ≤ (m' : Int)))) H; rw [decide_eq_decide.mpr (Int.ofNat_le (m := n') (n := m'))]; exact q⟩
theorem go_rI0 {g : Int → Int → V} (q : Q (g i j) H) : rI0 g (.int i) (.int j) H Q := ⟨i, j, rfl, rfl, q⟩
theorem go_mulN (h : m' < 2 ^ 63 ∨ n' < 2 ^ 63) (q : Q (.int ((m' * n' : Nat) : Int)) H) : rI CMul (fun i j => .int (i * j)) (.int (m' : Int)) (.int (n' : Int)) H Q :=
  ⟨_, _, rfl, rfl, by rcases h with h | h; exact .inl ⟨by omega, by omega⟩; exact .inr ⟨by omega, by omega⟩, by rw [Int.natCast_mul] at q; exact q⟩
theorem go_modN (h : 0 < n') (q : Q (.int ((m' % n' : Nat) : Int)) H) : rI (fun _ j => 0 < j) (fun i j => .int (i % j)) (.int (m' : Int)) (.int (n' : Int)) H Q :=
  ⟨_, _, rfl, rfl, by show (0 : Int) < (n' : Int); omega, by rw [Int.natCast_emod] at q; exact q⟩
theorem go_divN (h : 0 < n' ∧ n' < 1073741824) (q : Q (.int ((m' / n' : Nat) : Int)) H) : rI CDiv (fun i j => .int (i / j)) (.int (m' : Int)) (.int (n' : Int)) H Q :=
  ⟨_, _, rfl, rfl, ⟨by omega, by omega⟩, by rw [Int.natCast_ediv] at q; exact q⟩
theorem go_subN (h : n' ≤ m') (q : Q (.int ((m' - n' : Nat) : Int)) H) : rI0 (fun i j => .int (i - j)) (.int (m' : Int)) (.int (n' : Int)) H Q := ⟨_, _, rfl, rfl, by rw [Int.ofNat_sub h] at q; exact q⟩
theorem go_rI {Cd : Int → Int → Prop} {g : Int → Int → V} (h : Cd i j) (q : Q (g i j) H) : rI Cd g (.int i) (.int j) H Q := ⟨i, j, rfl, rfl, h, q⟩
theorem go_rU {g : Int → V} (q : Q (g i) H) : rU g (.int i) H Q := ⟨i, rfl, q⟩
theorem go_eqN (q : Q (.bl (decide (m' = n'))) H) : rEq (.int (m' : Int)) (.int (n' : Int)) H Q := ⟨rfl, by rw [decide_eq_decide.mpr (show V.int (m' : Int) = V.int (n' : Int) ↔ m' = n' by rw [V.int.injEq]; exact Int.ofNat_inj)]; exact q⟩
theorem go_neN (q : Q (.bl (!decide (m' = n'))) H) : rNe (.int (m' : Int)) (.int (n' : Int)) H Q := ⟨rfl, by rw [decide_eq_decide.mpr (show V.int (m' : Int) = V.int (n' : Int) ↔ m' = n' by rw [V.int.injEq]; exact Int.ofNat_inj)]; exact q⟩
theorem go_eqI (q : Q (.bl (decide (i = j))) H) : rEq (.int i) (.int j) H Q := ⟨rfl, by rw [decide_eq_decide.mpr (show V.int i = V.int j ↔ i = j by rw [V.int.injEq])]; exact q⟩
theorem go_neI (q : Q (.bl (!decide (i = j))) H) : rNe (.int i) (.int j) H Q := ⟨rfl, by rw [decide_eq_decide.mpr (show V.int i = V.int j ↔ i = j by rw [V.int.injEq])]; exact q⟩
theorem go_ixt (h : SqT K H p xs) (e : atI xs i = some v) (q : Q v H) : rIxT K (.ref p) (.int i) H Q := ⟨p, xs, i, v, rfl, rfl, h, e, q⟩
theorem go_ixl (h : SqL K H p xs) (e : atI xs i = some v) (q : Q v H) : rIxL K (.ref p) (.int i) H Q := ⟨p, xs, i, v, rfl, rfl, h, e, q⟩
theorem go_lent (h : SqT K H p xs) (q : Q (.int (xs.length : Int)) H) : rLenSeq K [.ref p] H Q := ⟨p, xs, rfl, .inr h, q⟩
theorem go_lenl (h : SqL K H p xs) (q : Q (.int (xs.length : Int)) H) : rLenSeq K [.ref p] H Q := ⟨p, xs, rfl, .inl h, q⟩
theorem go_lstof (h : SqL K H p xs ∨ SqT K H p xs) (q : ∀ l H', H l = none → Same H H' → H' l = some (.lst xs) → Q (.ref l) H') : rListOf K [.ref p] H Q := ⟨p, xs, rfl, h, fun l hl => q l _ hl (same_new hl) upd_same⟩
theorem go_tupofl (h : SqL K H p xs) (q : ∀ l H', H l = none → Same H H' → H' l = some (.tup xs) → Q (.ref l) H') : rTupOf K [.ref p] H Q := ⟨p, xs, rfl, .inl ⟨h, fun l hl => q l _ hl (same_new hl) upd_same⟩⟩
theorem go_eqD {d e : PyData} (h1 : Dp K H x d) (h2 : Dp K H y e) (s1 : SeqAt.shaped d = true) (s2 : SeqAt.shaped e = true) (q : Q (.bl (PyData.eqv d e)) H) : rEqD K x y H Q := ⟨d, e, h1, h2, s1, s2, q⟩
theorem go_neD {d e : PyData} (h1 : Dp K H x d) (h2 : Dp K H y e) (s1 : SeqAt.shaped d = true) (s2 : SeqAt.shaped e = true) (q : Q (.bl (!PyData.eqv d e)) H) : rNeD K x y H Q := ⟨d, e, h1, h2, s1, s2, q⟩
theorem go_sl {rs : V → Option Int → Option Int → Hp → VK → Prop} {tl th : TO} (q : te σ H fun x H1 => tl σ H1 fun l H2 => th σ H2 fun u H3 => rs x l u H3 Q) : tSl rs te tl th σ H Q := q
theorem go_part {QO : Option Int → Hp → Prop} (q : te σ H (AsI fun i H1 => QO (some i) H1)) : tPart te σ H QO := q
theorem go_nopart {QO : Option Int → Hp → Prop} (q : QO none H) : tNoPart σ H QO := q
theorem go_sllT {k : Nat} (h : SqL K H a xs) (q : ∀ p H', H p = none → Same H H' → H' p = some (.lst (xs.take k)) → Q (.ref p) H') : rSlL K (.ref a) none (some (k : Int)) H Q := ⟨a, xs, rfl, h, fun p hp => q p _ hp (same_new hp) (by rw [upd_same, cutT])⟩
theorem go_sllD {k : Nat} (h : SqL K H a xs) (q : ∀ p H', H p = none → Same H H' → H' p = some (.lst (xs.drop k)) → Q (.ref p) H') : rSlL K (.ref a) (some (k : Int)) none H Q := ⟨a, xs, rfl, h, fun p hp => q p _ hp (same_new hp) (by rw [upd_same, cutF])⟩
theorem go_cat {ys : List V} {l l' : Addr} (h1 : H l = some (.lst xs)) (h2 : H l' = some (.lst ys)) (hz : xs.length + ys.length ≤ sizeLine) (q : ∀ p H', H p = none → Same H H' → H' p = some (.lst (xs ++ ys)) → Q (.ref p) H') : rCat (.ref l) (.ref l') H Q := ⟨l, l', xs, ys, rfl, rfl, h1, h2, hz, fun p hp => q p _ hp (same_new hp) upd_same⟩
theorem go_all {bs : List Bool} (h : SqL K H a (bs.map V.bl)) (q : Q (.bl (bs.all id)) H) : rAll K [.ref a] H Q := ⟨a, bs, rfl, h, q⟩
theorem go_any {bs : List Bool} (h : SqL K H a (bs.map V.bl)) (q : Q (.bl (bs.any id)) H) : rAny K [.ref a] H Q := ⟨a, bs, rfl, h, q⟩
/-! to a later heap -/
variable {d : PyData} {ds : List PyData} {o : HO}
theorem up_dp (s : Same H H') (h : Dp K H v d) : Dp K H' v d := h.up s
theorem up_dpa (s : Same H H') (h : DpAll K H vs ds) : DpAll K H' vs ds := h.up s
theorem up_sqt (s : Same H H') (h : SqT K H a xs) : SqT K H' a xs := Same.tup s h
theorem up_sql (s : Same H H') (h : SqL K H a xs) : SqL K H' a xs := s.seq h
theorem up_get (s : Same H H') (h : H a = some o) : H' a = some o := s _ _ h
theorem up_pot (s : Same H H') (h : Pot H a) : Pot H' a := h.same s
theorem bu_dp (s : Bu p H H') (hp : Pot H p) (hn : NL d = true) (h : Dp K H v d) : Dp K H' v d := by
  obtain ⟨ys, e⟩ := hp.lst
  exact h.bu hn s e
theorem bu_sqt (s : Bu p H H') (hp : Pot H p) (h : SqT K H a xs) : SqT K H' a xs := by
  obtain ⟨ys, e⟩ := hp.lst
  exact s.sqt e h
theorem bu_sql (s : Bu p H H') (hp : a ≠ p) (h : SqL K H a xs) : SqL K H' a xs := s.seqL hp h
theorem bu_get (s : Bu p H H') (hp : a ≠ p) (h : H a = some o) : H' a = some o := s _ _ hp h
theorem bu_gett (s : Bu p H H') (hp : Pot H p) (h : H a = some (.tup xs)) : H' a = some (.tup xs) := s _ _ (fun e => by obtain ⟨ys, z⟩ := hp.lst; rw [e, z] at h; cases h) h
theorem bu_geti {dx : Addr} {fs : List (Str × V)} (s : Bu p H H') (hp : Pot H p) (h : H a = some (.ins C dx fs)) : H' a = some (.ins C dx fs) := s _ _ (fun e => by obtain ⟨ys, z⟩ := hp.lst; rw [e, z] at h; cases h) h
theorem pot_ne (hq : H q = none) (h : Pot H p) : q ≠ p := h.ne hq
theorem up_same {H0 : Hp} (s : Same H H') (h : Same H0 H) : Same H0 H' := h.trans s
theorem up_bu {H0 : Hp} (s : Same H H') (h : Bu p H0 H) : Bu p H0 H' := h.trans (Bu.of s p)
theorem bu_bu {H0 : Hp} (s : Bu p H H') (h : Bu p H0 H) : Bu p H0 H' := h.trans s
/-! data -/
theorem d_tup (h : H a = some (.tup vs)) (hs : DpAll K H vs ds) : Dp K H (.ref a) (.tuple ds) := .tup (SqT.of h) hs
theorem d_lst (h : H a = some (.lst vs)) (hs : DpAll K H vs ds) : Dp K H (.ref a) (.list ds) := .lst (SqL.of h) hs
/-! draw and pick -/
theorem c_drawN {k : Nat} (h0 : Pot H p) (h1 : 0 < k) (h2 : k ≤ 1000000000000000000) (q : ∀ (d : Nat) (H' : Hp), d < k → Pot H' p → Bu p H H' → Q (.int d) H') : sp_draw [.ref p, .int (k : Int)] H Q E :=
  ⟨_, _, rfl, h0, by omega, by omega, fun d H' hd => q d H' (by omega)⟩
theorem c_pick {l : Addr} (h0 : Pot H p) (h1 : l ≠ p) (h2 : SqL K H l xs) (h3 : xs ≠ []) (h4 : xs.length ≤ 1000) (q : ∀ (v : V) (H' : Hp), v ∈ xs → Pot H' p → Bu p H H' → Q v H') : sp_pick K [.ref p, .ref l] H Q E := ⟨_, _, _, rfl, h0, h1, h2, h3, h4, q⟩
end
end Mv
set_option Elab.async false
set_option maxRecDepth 100000
set_option maxHeartbeats 4000000
/-! Loops and comprehensions for the steps of mvo. -/
namespace Mv
open PySem PySem.Spec PyProof.Rows L2
def ForR (g : TG) (tb : TS) (D : Ends) (σ : L2.St) : It → Hp → Prop := fun J H1 => ∃ W : Nat → Nat → L2.St → Hp → Prop, (∃ m, W 0 m σ H1) ∧ ∀ i m σ H, W i m σ H →
  (J.stop i H ∧ D.nx σ H) ∨ (J.go i H ∧ ∃ N : L2.St → Hp → Prop, (∀ σ' H', N σ' H' → ∃ m', m' < m ∧ W (i + 1) m' σ' H') ∧ ∀ x H', J.yld i H x H' → g x σ H' fun σ2 H2 => tb { D with nx := N, ct := N, bk := D.nx } σ2 H2)
def LcR (g : TG) (tt : TT) (te : TE) (vs : List Nat) (σ : L2.St) (Q : VK) : It → Hp → Prop := fun J H1 => ∀ D, H1 D = none → ∃ W : Nat → Nat → Hp → Prop, (∃ m, W 0 m (upd H1 D (.lst []))) ∧ ∀ i m H, W i m H →
  (J.stop i H ∧ Q (.ref D) H) ∨ (J.go i H ∧ ∃ Nx : Hp → Prop, (∀ H', Nx H' → ∃ m', m' < m ∧ W (i + 1) m' H') ∧ ∀ x H', J.yld i H x H' → g x (wipe σ vs) H' fun σ2 H2 => wipe σ2 vs = wipe σ vs ∧ tt σ2 H2 fun b H3 =>
    if b = true then te σ2 H3 fun y H4 => ∃ acc, H4 D = some (.lst acc) ∧ acc.length < sizeLine ∧ Nx (upd H4 D (.lst (acc ++ [y]))) else Nx H3)
def Rg1 (R : It → Hp → Prop) : List V → Hp → Prop := fun vs H1 => ∃ j : Int, vs = [.int j] ∧ -(2 ^ 62) ≤ j ∧ j < 2 ^ 62 ∧ R (Itr 0 j.toNat) H1
def Rg2 (R : It → Hp → Prop) : List V → Hp → Prop := fun vs H1 => ∃ i j : Int, vs = [.int i, .int j] ∧ (-(2 ^ 62) ≤ i ∧ i < 2 ^ 62 ∧ -(2 ^ 62) ≤ j ∧ j < 2 ^ 62) ∧ R (Itr i (j - i).toNat) H1
def LsR (K : PySem.W.Frag) (R : It → Hp → Prop) : VK := fun x H1 => ∃ a, x = .ref a ∧ (∃ xs, SqL K H1 a xs) ∧ R (Itl K a) H1
def TpR (K : PySem.W.Frag) (R : It → Hp → Prop) : VK := fun x H1 => ∃ a, x = .ref a ∧ (∃ xs, SqT K H1 a xs) ∧ R (Itt K a) H1
def ZpR (K : PySem.W.Frag) (R : It → Hp → Prop) : List V → Hp → Prop := fun vs H1 => ∃ a b xs ys, vs = [.ref a, .ref b] ∧ ((SqL K H1 a xs ∧ SqL K H1 b ys ∧ R (Itz K a b) H1) ∨ (SqT K H1 a xs ∧ SqT K H1 b ys ∧ R (RZ.ItzT K a b) H1))
def EnR (K : PySem.W.Frag) (R : It → Hp → Prop) : List V → Hp → Prop := fun vs H1 => ∃ b a xs, vs = [.ref a] ∧ SqK b K H1 a xs ∧ R (IteK b K a) H1
section
variable {K : PySem.W.Frag} {σ σ' : L2.St} {H H' : Hp} {Q : VK} {n b c : L2.St → Hp → Prop} {rt : VK} {x : V} {vs : List Nat} {xs ys : List V} {te : TE} {ta : TA} {tt : TT} {tb : TS} {g : TG} {wi : TI} {a a' p : Addr} {R : It → Hp → Prop}
theorem go_for (q : wi σ H (ForR g tb ⟨n, rt, b, c⟩ σ)) : tFor wi g tb ⟨n, rt, b, c⟩ σ H := q
theorem go_lc (q : wi σ H (LcR g tt te vs σ Q)) : tLc wi g tt te vs σ H Q := q
theorem go_irng1 (q : ta σ H (Rg1 R)) : iRng1 ta σ H R := q
theorem go_irng2 (q : ta σ H (Rg2 R)) : iRng2 ta σ H R := q
theorem go_ilist (q : te σ H (LsR K R)) : iList K te σ H R := q
theorem go_itup (q : te σ H (TpR K R)) : iTup K te σ H R := q
theorem go_izip (q : ta σ H (ZpR K R)) : RZ.iZipA K ta σ H R := q
theorem go_ienum (q : ta σ H (EnR K R)) : iEnumA K ta σ H R := q
theorem go_rg1 {k : Nat} (h : k < 2 ^ 62) (q : R (Itr 0 k) H) : Rg1 R [.int (k : Int)] H := ⟨k, rfl, by omega, by omega, by rw [Int.toNat_natCast]; exact q⟩
theorem go_rg2 {k j : Nat} (h : k < 2 ^ 62) (h2 : j < 2 ^ 62) (q : R (Itr (k : Int) (j - k)) H) : Rg2 R [.int (k : Int), .int (j : Int)] H := ⟨k, j, rfl, ⟨by omega, by omega, by omega, by omega⟩, by rw [show ((j : Int) - (k : Int)).toNat = j - k by omega]; exact q⟩
theorem go_lsr (h : SqL K H a xs) (q : R (Itl K a) H) : LsR K R (.ref a) H := ⟨a, rfl, ⟨_, h⟩, q⟩
theorem go_tpr (h : SqT K H a xs) (q : R (Itt K a) H) : TpR K R (.ref a) H := ⟨a, rfl, ⟨_, h⟩, q⟩
theorem go_zpr (h : SqL K H a xs) (h2 : SqL K H a' ys) (q : R (Itz K a a') H) : ZpR K R [.ref a, .ref a'] H := ⟨a, a', xs, ys, rfl, .inl ⟨h, h2, q⟩⟩
theorem go_zprT (h : SqT K H a xs) (h2 : SqT K H a' ys) (q : R (RZ.ItzT K a a') H) : ZpR K R [.ref a, .ref a'] H := ⟨a, a', xs, ys, rfl, .inr ⟨h, h2, q⟩⟩
theorem go_enrL (h : SqL K H a xs) (q : R (IteK true K a) H) : EnR K R [.ref a] H := ⟨true, a, xs, rfl, h, q⟩
theorem go_enrT (h : SqT K H a xs) (q : R (IteK false K a) H) : EnR K R [.ref a] H := ⟨false, a, xs, rfl, h, q⟩
theorem go_catA {ys : List V} (h1 : SqT K H a xs) (h2 : SqT K H a' ys) (hz : xs.length + ys.length ≤ sizeLine) (q : ∀ p H', Same H H' → SqT K H' p (xs ++ ys) → Q (.ref p) H') : rCatA K (.ref a) (.ref a') H Q := by
  refine ⟨a, a', xs, ys, rfl, rfl, h1, h2, hz, fun e => ?_, fun _ e => ?_, fun _ _ p hp => q p _ (same_new hp) (SqT.of upd_same)⟩
  · subst e; exact q a' H (Same.refl _) h2
  · subst e; exact q a H (Same.refl _) (by rw [List.append_nil]; exact h1)
theorem go_slaT {k : Nat} (h : SqT K H a xs) (q : ∀ p H', Same H H' → SqT K H' p (xs.take k) → Q (.ref p) H') : rSlA K (.ref a) none (some (k : Int)) H Q := by
  refine ⟨a, xs, rfl, h, fun e => q a H (Same.refl _) ?_, fun _ p hp => q p _ (same_new hp) (SqT.of (by rw [upd_same, cutT]))⟩
  rw [HT.sIx_nat] at e
  rw [List.take_of_length_le (by omega)]
  exact h
theorem go_slaD {k : Nat} (h : SqT K H a xs) (q : ∀ p H', Same H H' → SqT K H' p (xs.drop k) → Q (.ref p) H') : rSlA K (.ref a) (some (k : Int)) none H Q := by
  refine ⟨a, xs, rfl, h, fun e => q a H (Same.refl _) ?_, fun _ p hp => q p _ (same_new hp) (SqT.of (by rw [upd_same, cutF]))⟩
  rw [HT.sIx_nat] at e
  by_cases z : k = 0
  · subst z; exact h
  · have : xs = [] := List.eq_nil_of_length_eq_zero (by omega)
    subst this
    simpa using h
/-! for -/
theorem forRange {k : Nat} (Pv : Nat → L2.St → Hp → Prop) (h0 : Pv 0 σ H) (hs : ∀ (i : Nat) σ H, i < k → Pv i σ H → g (.int (i : Int)) σ H fun σ2 H2 => tb ⟨Pv (i + 1), rt, n, Pv (i + 1)⟩ σ2 H2) (hd : ∀ σ H, Pv k σ H → n σ H) : ForR g tb ⟨n, rt, b, c⟩ σ (Itr 0 k) H :=
  for_it (D := ⟨n, rt, b, c⟩) walk_range Pv h0 (fun _ _ _ _ _ => trivial) (fun i x σ H H' hi hp hy => by
    obtain ⟨rfl, rfl⟩ := hy
    have := hs i σ H' hi hp
    rw [← Int.zero_add (i : Int)] at this
    exact this) hd
theorem forRange2 {k : Nat} {lo : Nat} (Pv : Nat → L2.St → Hp → Prop) (h0 : Pv 0 σ H) (hs : ∀ (i : Nat) σ H, i < k → Pv i σ H → g (.int ((lo + i : Nat) : Int)) σ H fun σ2 H2 => tb ⟨Pv (i + 1), rt, n, Pv (i + 1)⟩ σ2 H2) (hd : ∀ σ H, Pv k σ H → n σ H) : ForR g tb ⟨n, rt, b, c⟩ σ (Itr (lo : Int) k) H :=
  for_it (D := ⟨n, rt, b, c⟩) walk_range Pv h0 (fun _ _ _ _ _ => trivial) (fun i x σ H H' hi hp hy => by
    obtain ⟨rfl, rfl⟩ := hy
    have := hs i σ H' hi hp
    rw [Int.natCast_add] at this
    exact this) hd
theorem forList (Pv : Nat → L2.St → Hp → Prop) (h0 : Pv 0 σ H) (hG : ∀ i σ H, Pv i σ H → SqL K H a xs) (hs : ∀ (i : Nat) x σ H, i < xs.length → xs[i]? = some x → Pv i σ H → g x σ H fun σ2 H2 => tb ⟨Pv (i + 1), rt, n, Pv (i + 1)⟩ σ2 H2) (hd : ∀ σ H, Pv xs.length σ H → n σ H) :
    ForR g tb ⟨n, rt, b, c⟩ σ (Itl K a) H :=
  for_it (D := ⟨n, rt, b, c⟩) walk_list Pv h0 (fun i σ H _ h => hG i σ H h) (fun i x σ H H' hi hp hy => by
    obtain ⟨rfl, hx⟩ := hy
    exact hs i x σ H' hi hx hp) hd
theorem forTup (Pv : Nat → L2.St → Hp → Prop) (h0 : Pv 0 σ H) (hG : ∀ i σ H, Pv i σ H → SqT K H a xs) (hs : ∀ (i : Nat) x σ H, i < xs.length → xs[i]? = some x → Pv i σ H → g x σ H fun σ2 H2 => tb ⟨Pv (i + 1), rt, n, Pv (i + 1)⟩ σ2 H2) (hd : ∀ σ H, Pv xs.length σ H → n σ H) :
    ForR g tb ⟨n, rt, b, c⟩ σ (Itt K a) H :=
  for_it (D := ⟨n, rt, b, c⟩) walk_tup Pv h0 (fun i σ H _ h => hG i σ H h) (fun i x σ H H' hi hp hy => by
    obtain ⟨rfl, hx⟩ := hy
    exact hs i x σ H' hi hx hp) hd
theorem forZip {k : Nat} (hk : k = min xs.length ys.length) (Pv : Nat → L2.St → Hp → Prop) (h0 : Pv 0 σ H) (hG : ∀ i σ H, Pv i σ H → SqL K H a xs ∧ SqL K H a' ys)
    (hs : ∀ (i : Nat) x y T σ H H', i < k → xs[i]? = some x → ys[i]? = some y → Pv i σ H → H T = none → Same H H' → H' T = some (.tup [x, y]) → g (.ref T) σ H' fun σ2 H2 => tb ⟨Pv (i + 1), rt, n, Pv (i + 1)⟩ σ2 H2) (hd : ∀ σ H, Pv k σ H → n σ H) :
    ForR g tb ⟨n, rt, b, c⟩ σ (Itz K a a') H :=
  for_it (D := ⟨n, rt, b, c⟩) (walk_zip hk) Pv h0 (fun i σ H _ h => hG i σ H h) (fun i x σ H H' hi hp hy => by
    obtain ⟨T, x', y', rfl, hT, rfl, hx, hy⟩ := hy
    exact hs i x' y' T σ H _ hi hx hy hp hT (same_new hT) upd_same) hd
/-! while -/
def WhK (Pv : Nat → L2.St → Hp → Prop) (m : Nat) (tb : TS) (n : L2.St → Hp → Prop) (rt : VK) (σ : L2.St) : Bool → Hp → Prop := fun b H1 => if b = true then ∃ N : L2.St → Hp → Prop, (∀ σ' H', N σ' H' → ∃ m', m' < m ∧ Pv m' σ' H') ∧ tb ⟨N, rt, n, N⟩ σ H1 else n σ H1
theorem whileN (Pv : Nat → L2.St → Hp → Prop) (m0 : Nat) (h0 : Pv m0 σ H) (hs : ∀ m σ H, Pv m σ H → tt σ H (WhK Pv m tb n rt σ)) : tWhile tt tb ⟨n, rt, b, c⟩ σ H := ⟨Pv, ⟨m0, h0⟩, hs⟩
theorem wh_t {Pv : Nat → L2.St → Hp → Prop} {m : Nat} (q : tb ⟨fun s h => ∃ m', m' < m ∧ Pv m' s h, rt, n, fun s h => ∃ m', m' < m ∧ Pv m' s h⟩ σ H) : WhK Pv m tb n rt σ true H := by
  unfold WhK
  rw [if_pos rfl]
  exact ⟨_, fun _ _ h => h, q⟩
theorem wh_f {Pv : Nat → L2.St → Hp → Prop} {m : Nat} (q : n σ H) : WhK Pv m tb n rt σ false H := by
  unfold WhK
  rw [if_neg (by decide)]
  exact q
theorem go_rep {k : Nat} {v : V} (h : H a = some (.lst [v])) (hk : k ≤ 100000) (q : ∀ p H', H p = none → Same H H' → H' p = some (.lst (List.replicate k v)) → Q (.ref p) H') : rRep (.ref a) (.int (k : Int)) H Q := by
  refine ⟨a, k, [v], rfl, rfl, h, by omega, by omega, by simp; unfold sizeLine; omega, fun p hp => q p _ hp (same_new hp) ?_⟩
  rw [upd_same]
  simp
/-! comprehensions of data without lists; nothing old changes -/
theorem lcGen {J : It} {k : Nat} {G : Hp → Prop} {Y : Nat → Hp → V → Hp → Prop} (w : Walk J k G Y) (f : Nat → PyData) (hz : k ≤ 100000) (hl : ∀ i, i < k → NL (f i) = true) (hG : ∀ H', Same H H' → G H')
    (hs : ∀ (i : Nat) (x : V) (H1 H2 : Hp) (Q' : VK), i < k → Same H H1 → Y i H1 x H2 → (∀ y H4, Same H1 H4 → Dp K H4 y (f i) → Q' y H4) → g x (wipe σ vs) H2 fun σ2 H3 => wipe σ2 vs = wipe σ vs ∧ te σ2 H3 Q')
    (hd : ∀ D H' ys, H D = none → Same H H' → H' D = some (.lst ys) → DpAll K H' ys ((List.range k).map f) → Q (.ref D) H') (hg : ∀ x σ' H' (P Q : L2.St → Hp → Prop), (∀ σ2 H2, P σ2 H2 → Q σ2 H2) → g x σ' H' P → g x σ' H' Q) : LcR g tYes te vs σ Q J H := by
  intro D hD
  refine lc_nl (K := K) w ((List.range k).map f) (by simp) hz (NLs.of fun d hd => ?_) hD hG ?_ ?_ hg
  · obtain ⟨i, hi, rfl⟩ := List.mem_map.mp hd
    exact hl i (List.mem_range.mp hi)
  · rintro i e x H1 H2 Q' hi he s1 hy hq
    rw [List.getElem?_map, List.getElem?_range hi] at he
    obtain rfl := Option.some.inj he
    exact hs i x H1 H2 Q' hi s1 hy hq
  · rintro H1 ys s1 eD hall
    exact hd D H1 ys hD s1 eD hall
theorem lcRange {k j : Nat} (f : Nat → PyData) (hz : k ≤ 100000) (hl : ∀ i, i < k → NL (f i) = true) (hw : ∀ x, wipe ((wipe σ vs).set j (some x)) vs = wipe σ vs)
    (hs : ∀ (i : Nat) (H1 : Hp) (Q' : VK), i < k → Same H H1 → (∀ y H4, Same H1 H4 → Dp K H4 y (f i) → Q' y H4) → te ((wipe σ vs).set j (some (.int (i : Int)))) H1 Q')
    (hd : ∀ D H' ys, H D = none → Same H H' → H' D = some (.lst ys) → DpAll K H' ys ((List.range k).map f) → Q (.ref D) H') : LcR (gName j) tYes te vs σ Q (Itr 0 k) H :=
  lcGen walk_range f hz hl (fun _ _ => trivial) (fun i x H1 H2 Q' hi s1 hy hq => by
    obtain ⟨rfl, rfl⟩ := hy
    refine ⟨hw _, ?_⟩
    have := hs i _ Q' hi s1 hq
    rw [← Int.zero_add (i : Int)] at this
    exact this) hd gName_mono
theorem lcList {j : Nat} (f : Nat → PyData) (ha : SqL K H a xs) (hz : xs.length ≤ 100000) (hl : ∀ i, i < xs.length → NL (f i) = true) (hw : ∀ x, wipe ((wipe σ vs).set j (some x)) vs = wipe σ vs)
    (hs : ∀ (i : Nat) (x : V) (H1 : Hp) (Q' : VK), i < xs.length → xs[i]? = some x → Same H H1 → (∀ y H4, Same H1 H4 → Dp K H4 y (f i) → Q' y H4) → te ((wipe σ vs).set j (some x)) H1 Q')
    (hd : ∀ D H' ys, H D = none → Same H H' → H' D = some (.lst ys) → DpAll K H' ys ((List.range xs.length).map f) → Q (.ref D) H') : LcR (gName j) tYes te vs σ Q (Itl K a) H :=
  lcGen walk_list f hz hl (fun _ s => s.seq ha) (fun i x H1 H2 Q' hi s1 hy hq => by
    obtain ⟨rfl, hx⟩ := hy
    exact ⟨hw _, hs i x _ Q' hi hx s1 hq⟩) hd gName_mono
theorem lcTup {j : Nat} (f : Nat → PyData) (ha : SqT K H a xs) (hz : xs.length ≤ 100000) (hl : ∀ i, i < xs.length → NL (f i) = true) (hw : ∀ x, wipe ((wipe σ vs).set j (some x)) vs = wipe σ vs)
    (hs : ∀ (i : Nat) (x : V) (H1 : Hp) (Q' : VK), i < xs.length → xs[i]? = some x → Same H H1 → (∀ y H4, Same H1 H4 → Dp K H4 y (f i) → Q' y H4) → te ((wipe σ vs).set j (some x)) H1 Q')
    (hd : ∀ D H' ys, H D = none → Same H H' → H' D = some (.lst ys) → DpAll K H' ys ((List.range xs.length).map f) → Q (.ref D) H') : LcR (gName j) tYes te vs σ Q (Itt K a) H :=
  lcGen walk_tup f hz hl (fun _ s => Same.tup s ha) (fun i x H1 H2 Q' hi s1 hy hq => by
    obtain ⟨rfl, hx⟩ := hy
    exact ⟨hw _, hs i x _ Q' hi hx s1 hq⟩) hd gName_mono
/-- all [..] where each is true: the list of trues -/
theorem trues {k : Nat} {ys : List V} (h : DpAll K H ys ((List.range k).map fun _ => PyData.bool true)) : ys = (List.replicate k true).map V.bl :=
  DpAll.boolsE (K := K) (H := H) (by rw [List.map_const', List.length_range] at h; rw [List.map_replicate]; exact h)
theorem trues_all (k : Nat) : (List.replicate k true).all id = true := by simp
theorem DpAll.nth {ys : List V} {k i : Nat} {f : Nat → PyData} (h : DpAll K H ys ((List.range k).map f)) (hi : i < k) : ∃ y, ys[i]? = some y ∧ Dp K H y (f i) := h.got (by rw [List.getElem?_map, List.getElem?_range hi]; rfl)
/-! with draws: all but the pot is kept; what is made is data that is Pd -/
theorem Pot.upd {D : Addr} {o : HO} (h : Pot H p) (hD : D ≠ p) : Pot (upd H D o) p := by
  obtain ⟨x, y, e, r⟩ := h.ex
  exact ⟨x, y, by rw [upd_ne (Ne.symm hD)]; exact e, r⟩
theorem lcBu {k j : Nat} (Pd : Nat → PyData → Prop) (hp : Pot H p) (hz : k ≤ 100000) (hw : ∀ x, wipe ((wipe σ vs).set j (some x)) vs = wipe σ vs)
    (hs : ∀ (i : Nat) (H1 : Hp) (Q' : VK), i < k → Pot H1 p → Bu p H H1 → (∀ y d H4, Bu p H1 H4 → Pot H4 p → NL d = true → Pd i d → Dp K H4 y d → Q' y H4) → te ((wipe σ vs).set j (some (.int (i : Int)))) H1 Q')
    (hd : ∀ D H' ys ds, H D = none → D ≠ p → Bu p H H' → Pot H' p → H' D = some (.lst ys) → ds.length = k → (∀ (i : Nat) d, ds[i]? = some d → NL d = true ∧ Pd i d) → DpAll K H' ys ds → Q (.ref D) H') : LcR (gName j) tYes te vs σ Q (Itr 0 k) H := by
  intro D hD
  have hne : D ≠ p := hp.ne hD
  refine lc_it walk_range (fun i H' => Bu p H H' ∧ Pot H' p ∧ ∃ ys ds, H' D = some (.lst ys) ∧ ds.length = i ∧ (∀ (i : Nat) d, ds[i]? = some d → NL d = true ∧ Pd i d) ∧ DpAll K H' ys ds) ⟨Bu.new hD, hp.upd hne, [], [], upd_same, rfl, fun i d h => by simp at h, .nil⟩ (fun _ _ _ _ => trivial) ?_ ?_
  · rintro i x H1 H2 hi ⟨b1, p1, ys, ds, eD, hlen, hds, hall⟩ ⟨rfl, rfl⟩
    refine ⟨hw _, ?_⟩
    show te ((wipe σ vs).set j (some (.int ((0 : Int) + (i : Int))))) _ _
    rw [Int.zero_add]
    refine hs i _ _ hi p1 b1 fun y d H4 b4 p4 hnl hpd hdp => ?_
    have e4 := b4 _ _ hne eD
    obtain ⟨zs, ez⟩ := p1.lst
    have nl : NLs ds = true := NLs.of fun d hd => by
      obtain ⟨i, hi⟩ := List.getElem?_of_mem hd
      exact (hds i d hi).1
    refine ⟨ys, e4, ?_, ?_, p4.upd hne, ys ++ [y], ds ++ [d], upd_same, by simp [hlen], ?_, ?_⟩
    · rw [hall.len, hlen]; unfold sizeLine; omega
    · intro b o nb e
      rw [upd_ne (ne_of_none e hD)]
      exact (b1.trans b4) b o nb e
    · intro i' d' h'
      rcases Nat.lt_trichotomy i' ds.length with z | z | z
      · rw [List.getElem?_append_left z] at h'
        exact hds i' d' h'
      · subst z
        rw [List.getElem?_append_right (Nat.le_refl _), Nat.sub_self] at h'
        obtain rfl := Option.some.inj h'
        rw [hlen]
        exact ⟨hnl, hpd⟩
      · rw [List.getElem?_eq_none (by simp; omega)] at h'
        cases h'
    · exact ((hall.bu nl b4 ez).bu nl Bu.set e4).app (.cons (hdp.bu hnl Bu.set e4) .nil)
  · rintro H1 ⟨b1, p1, ys, ds, eD, hlen, hds, hall⟩
    exact hd D H1 ys ds hD hne b1 p1 eD hlen hds hall
theorem lcBuL {j : Nat} (Pd : Nat → PyData → Prop) (hp : Pot H p) (ha : H a = some (.lst xs)) (hap : a ≠ p) (hz : xs.length ≤ 100000) (hw : ∀ x, wipe ((wipe σ vs).set j (some x)) vs = wipe σ vs)
    (hs : ∀ (i : Nat) (x : V) (H1 : Hp) (Q' : VK), i < xs.length → xs[i]? = some x → Pot H1 p → Bu p H H1 → (∀ y d H4, Bu p H1 H4 → Pot H4 p → NL d = true → Pd i d → Dp K H4 y d → Q' y H4) → te ((wipe σ vs).set j (some x)) H1 Q')
    (hd : ∀ D H' ys ds, H D = none → D ≠ p → Bu p H H' → Pot H' p → H' D = some (.lst ys) → ds.length = xs.length → (∀ (i : Nat) d, ds[i]? = some d → NL d = true ∧ Pd i d) → DpAll K H' ys ds → Q (.ref D) H') : LcR (gName j) tYes te vs σ Q (Itl K a) H := by
  intro D hD
  have hne : D ≠ p := hp.ne hD
  refine lc_it walk_list (fun i H' => Bu p H H' ∧ Pot H' p ∧ ∃ ys ds, H' D = some (.lst ys) ∧ ds.length = i ∧ (∀ (i : Nat) d, ds[i]? = some d → NL d = true ∧ Pd i d) ∧ DpAll K H' ys ds) ⟨Bu.new hD, hp.upd hne, [], [], upd_same, rfl, fun i d h => by simp at h, .nil⟩ (fun i H' _ h => SqL.of (h.1 _ _ hap ha)) ?_ ?_
  · rintro i x H1 H2 hi ⟨b1, p1, ys, ds, eD, hlen, hds, hall⟩ ⟨rfl, hx⟩
    refine ⟨hw _, ?_⟩
    show te ((wipe σ vs).set j (some x)) _ _
    refine hs i x _ _ hi hx p1 b1 fun y d H4 b4 p4 hnl hpd hdp => ?_
    have e4 := b4 _ _ hne eD
    obtain ⟨zs, ez⟩ := p1.lst
    have nl : NLs ds = true := NLs.of fun d hd => by
      obtain ⟨i, hi⟩ := List.getElem?_of_mem hd
      exact (hds i d hi).1
    refine ⟨ys, e4, ?_, ?_, p4.upd hne, ys ++ [y], ds ++ [d], upd_same, by simp [hlen], ?_, ?_⟩
    · rw [hall.len, hlen]; unfold sizeLine; omega
    · intro b o nb e
      rw [upd_ne (ne_of_none e hD)]
      exact (b1.trans b4) b o nb e
    · intro i' d' h'
      rcases Nat.lt_trichotomy i' ds.length with z | z | z
      · rw [List.getElem?_append_left z] at h'
        exact hds i' d' h'
      · subst z
        rw [List.getElem?_append_right (Nat.le_refl _), Nat.sub_self] at h'
        obtain rfl := Option.some.inj h'
        rw [hlen]
        exact ⟨hnl, hpd⟩
      · rw [List.getElem?_eq_none (by simp; omega)] at h'
        cases h'
    · exact ((hall.bu nl b4 ez).bu nl Bu.set e4).app (.cons (hdp.bu hnl Bu.set e4) .nil)
  · rintro H1 ⟨b1, p1, ys, ds, eD, hlen, hds, hall⟩
    exact hd D H1 ys ds hD hne b1 p1 eD hlen hds hall
end
end Mv
set_option Elab.async false
set_option maxRecDepth 100000
set_option maxHeartbeats 4000000
/-! An instance that changes: its fields are stored, all else is kept. -/
namespace Mv
open PySem PySem.Spec PyProof.Rows L2
/-- the instance at a, of k fields, changes; all else is kept -/
def Mi (a : Addr) (k : Nat) (H H' : Hp) : Prop := (∃ C dx fs, H a = some (.ins C dx fs) ∧ fs.length = k) ∧ Bu a H H'
def SfR (K : PySem.W.Frag) (f : Str) (y : V) (n : L2.St → Hp → Prop) (σ : L2.St) : VK := fun x H2 => ∃ a C dx fs, x = .ref a ∧ H2 a = some (.ins C dx fs) ∧ Cls K C ∧ NoAttr K C f ∧ fs.length < 1000 ∧ n σ (upd H2 a (.ins C dx (putF f y fs)))
section
variable {K : PySem.W.Frag} {σ : L2.St} {H H' : Hp} {Q : VK} {n b c : L2.St → Hp → Prop} {rt : VK} {x y v : V} {xs ys : List V} {ta tv te : TE} {a p q C dx : Addr} {f : Str} {fs fs' : List (Str × V)} {k : Nat} {d : PyData} {ds : List PyData} {vs : List V}
theorem ps_fld' {X : Cx} {o value : Expr} {pos pos' : Pos} (ha : PE X o ta) (hv : PE X value tv) (hs : swapsWith value (some (.Attribute o f pos')) pos.line X.env = pure false) (e : X.K = K := by (conv => lhs; whnf)) : PS X (.Assign [.Attribute o f pos'] value pos) (sFld K ta tv f) := by
  subst e
  exact ps_fld ha hv hs
theorem go_sfld (q : tv σ H fun y H1 => ta σ H1 (SfR K f y n σ)) : sFld K ta tv f ⟨n, rt, b, c⟩ σ H := q
theorem go_sfr (h : H a = some (.ins C dx fs)) (hc : Cls K C) (hn : NoAttr K C f) (hl : fs.length < 1000) (e : putF f y fs = fs') (q : ∀ H', Mi a fs.length H H' → H' a = some (.ins C dx fs') → n σ H') : SfR K f y n σ (.ref a) H :=
  ⟨a, C, dx, fs, rfl, h, hc, hn, hl, by subst e; exact q _ ⟨⟨C, dx, fs, h, rfl⟩, Bu.set⟩ upd_same⟩
theorem mi_sqt (s : Mi a k H H') (h : SqT K H p xs) : SqT K H' p xs := by
  obtain ⟨⟨C, dx, fs, e, _⟩, b⟩ := s
  rcases h with (h | ⟨o, h⟩) | h
  · exact .inl (.inl (b p _ (fun z => by rw [z, e] at h; cases h) h))
  · exact .inl (.inr ⟨o, b p _ (fun z => by rw [z, e] at h; cases h) h⟩)
  · exact .inr h
theorem mi_sql (s : Mi a k H H') (h : SqL K H p xs) : SqL K H' p xs := by
  obtain ⟨⟨C, dx, fs, e, _⟩, b⟩ := s
  rcases h with (h | ⟨o, h⟩) | h
  · exact .inl (.inl (b p _ (fun z => by rw [z, e] at h; cases h) h))
  · exact .inl (.inr ⟨o, b p _ (fun z => by rw [z, e] at h; cases h) h⟩)
  · exact .inr h
theorem mi_gett (s : Mi a k H H') (h : H p = some (.tup xs)) : H' p = some (.tup xs) := by
  obtain ⟨⟨C, dx, fs, e, _⟩, b⟩ := s
  exact b p _ (fun z => by rw [z, e] at h; cases h) h
theorem mi_getl (s : Mi a k H H') (h : H p = some (.lst xs)) : H' p = some (.lst xs) := by
  obtain ⟨⟨C, dx, fs, e, _⟩, b⟩ := s
  exact b p _ (fun z => by rw [z, e] at h; cases h) h
theorem mi_pot (s : Mi a k H H') (h : Pot H p) : Pot H' p := by
  obtain ⟨x, y, e, r⟩ := h.ex
  exact ⟨x, y, mi_getl s e, r⟩
mutual
theorem mi_dp' (s : Mi a k H H') : ∀ (d : PyData) (v : V), Dp K H v d → Dp K H' v d
  | .none, _, h => by cases h; exact .non
  | .bool b, _, h => by cases h; exact .bl b
  | .int i, _, h => by cases h; exact .int i
  | .str x, _, h => by cases h; exact .str x
  | .list ds, _, h => by
    cases h with
    | lst hs ha => exact .lst (mi_sql s hs) (mi_dpa' s ds _ ha)
  | .tuple ds, _, h => by
    cases h with
    | tup hs ha => exact .tup (mi_sqt s hs) (mi_dpa' s ds _ ha)
  | .dict _, _, h => by cases h
theorem mi_dpa' (s : Mi a k H H') : ∀ (ds : List PyData) (vs : List V), DpAll K H vs ds → DpAll K H' vs ds
  | [], _, h => by cases h; exact .nil
  | d :: ds, _, h => by
    cases h with
    | cons h1 h2 => exact .cons (mi_dp' s d _ h1) (mi_dpa' s ds _ h2)
end
theorem mi_dp (s : Mi a k H H') (h : Dp K H v d) : Dp K H' v d := mi_dp' s d v h
theorem mi_dpa (s : Mi a k H H') (h : DpAll K H vs ds) : DpAll K H' vs ds := mi_dpa' s ds vs h
theorem mi_same (s : Same H H') (h : H a = some (.ins C dx fs)) : Mi a fs.length H H' := ⟨⟨C, dx, fs, h, rfl⟩, Bu.of s a⟩
theorem mi_refl (h : H a = some (.ins C dx fs)) (hk : fs.length = k) : Mi a k H H := ⟨⟨C, dx, fs, h, hk⟩, Bu.refl _ _⟩
/-- Mi, then nothing old changes; and so on -/
theorem Mi.up {H0 : Hp} (h : Mi a k H0 H) (s : Same H H') : Mi a k H0 H' := ⟨h.1, h.2.trans (Bu.of s a)⟩
theorem up_mi {H0 : Hp} (s : Same H H') (h : Mi a k H0 H) : Mi a k H0 H' := h.up s
theorem mi_mi {H0 : Hp} {j : Nat} (s : Mi a j H H') (h : Mi a k H0 H) : Mi a k H0 H' := ⟨h.1, h.2.trans s.2⟩
theorem mi_bu {H0 : Hp} (s : Mi a k H H') (h : Bu a H0 H) : Bu a H0 H' := h.trans s.2
end
end Mv
set_option Elab.async false
set_option maxRecDepth 100000
set_option maxHeartbeats 4000000
/-! Keyword calls in another sequence, repr, is, powers: for the steps of mvo. -/
namespace Mv
open PySem PySem.Spec PyProof.Rows L2
def kSw2 {α : Type} (vs zs : List α) : List α := match vs, zs with
  | [], [a, b] => [b, a]
  | vs, zs => vs ++ zs
def kRev3 {α : Type} (vs zs : List α) : List α := match vs, zs with
  | [], [a, b, c] => [c, b, a]
  | vs, zs => vs ++ zs
def kId {α : Type} (vs zs : List α) : List α := vs ++ zs
theorem kSw2_rel {vs zs : List V} {us ws : List Value} (h1 : Vals vs us) (h2 : Vals zs ws) : Vals (kSw2 vs zs) (kSw2 us ws) := by
  cases h1 with
  | cons a b => exact Vals.append (Paired.cons a b) h2
  | nil =>
    cases h2 with
    | nil => exact .nil
    | cons a h =>
      cases h with
      | nil => exact .cons a .nil
      | cons b h =>
        cases h with
        | nil => exact .cons b (.cons a .nil)
        | cons c h => exact .cons a (.cons b (.cons c h))
theorem kRev3_rel {vs zs : List V} {us ws : List Value} (h1 : Vals vs us) (h2 : Vals zs ws) : Vals (kRev3 vs zs) (kRev3 us ws) := by
  cases h1 with
  | cons a b => exact Vals.append (Paired.cons a b) h2
  | nil =>
    cases h2 with
    | nil => exact .nil
    | cons a h =>
      cases h with
      | nil => exact .cons a .nil
      | cons b h =>
        cases h with
        | nil => exact .cons a (.cons b .nil)
        | cons c h =>
          cases h with
          | nil => exact .cons c (.cons b (.cons a .nil))
          | cons d h => exact .cons a (.cons b (.cons c (.cons d h)))
theorem kId_rel {vs zs : List V} {us ws : List Value} (h1 : Vals vs us) (h2 : Vals zs ws) : Vals (kId vs zs) (kId us ws) := h1.append h2
def KnR (m : Nat) (sp : Sp) (gV : List V → List V → List V) (pre : List V) (Q : VK) : List V → Hp → Prop := fun zs H2 => zs.length = m ∧ sp (gV pre zs) H2 Q E0
section
variable {K : PySem.W.Frag} {σ : L2.St} {H H' : Hp} {Q : VK} {x y v : V} {vs zs pre : List V} {t : TA} {ta : TE} {a C dx : Addr} {fs : List (Str × V)} {sp : Sp} {gV : List V → List V → List V} {n m : Nat} {ds : List PyData} {nm : Str}
theorem go_knr0 (q : t σ H (KnR m sp gV pre Q)) : tCallKn n m sp gV pre t σ H Q := q
theorem go_knr (hl : zs.length = m) (e : gV pre zs = vs) (q : sp vs H Q E0) : KnR m sp gV pre Q zs H := ⟨hl, by rw [e]; exact q⟩
def MkR (C : Addr) (nm : Str) (n : Nat) (sp : Sp) (gV : List V → List V → List V) (tk : TA) (σ : L2.St) (Q : VK) : VK := fun x H1 => ∃ a dx fs, x = .ref a ∧ H1 a = some (.ins C dx fs) ∧ fs.lookup nm = none ∧ tk σ H1 fun zs H2 => zs.length = n ∧ sp (gV [x] zs) H2 Q E0
theorem go_mkn (q : ta σ H (MkR C nm n sp gV t σ Q)) : tMethKn C nm n sp gV ta t σ H Q := q
theorem go_mkr (h : H a = some (.ins C dx fs)) (hm : fs.lookup nm = none) (q : t σ H (KnR n sp gV [.ref a] Q)) : MkR C nm n sp gV t σ Q (.ref a) H := ⟨a, dx, fs, rfl, h, hm, q⟩
theorem go_isiD (h : Dp K H v (.tuple ds)) (q : Q (.bl true) H) : rIsi K [v, .ty "tuple"] H Q := by
  obtain ⟨b, xs, rfl, hs, _⟩ := h.tupE
  exact ⟨_, _, _, _, true, rfl, .ty _, tyT hs, kit_ty (by decide +kernel), q⟩
theorem go_lenD (h : Dp K H v (.tuple ds)) (q : Q (.int (ds.length : Int)) H) : rLenSeq K [v] H Q := by
  obtain ⟨b, xs, rfl, hs, ha⟩ := h.tupE
  exact ⟨b, xs, rfl, .inr hs, by rw [ha.len]; exact q⟩
theorem go_isB {a b : Bool} (q : Q (.bl (decide (a = b))) H) : rIsB (.bl a) (.bl b) H Q := ⟨a, b, rfl, rfl, q⟩
theorem go_notB {a b : Bool} (q : Q (.bl (!decide (a = b))) H) : rNotB (.bl a) (.bl b) H Q := ⟨a, b, rfl, rfl, q⟩
theorem go_eqS {a b : Str} (q : Q (.bl (decide (a = b))) H) : rEq (.str a) (.str b) H Q := ⟨rfl, by rw [decide_eq_decide.mpr (show V.str a = V.str b ↔ a = b by rw [V.str.injEq])]; exact q⟩
theorem go_neS {a b : Str} (q : Q (.bl (!decide (a = b))) H) : rNe (.str a) (.str b) H Q := ⟨rfl, by rw [decide_eq_decide.mpr (show V.str a = V.str b ↔ a = b by rw [V.str.injEq])]; exact q⟩
theorem go_eqB {a b : Bool} (q : Q (.bl (decide (a = b))) H) : rEq (.bl a) (.bl b) H Q := ⟨rfl, by rw [decide_eq_decide.mpr (show V.bl a = V.bl b ↔ a = b by rw [V.bl.injEq])]; exact q⟩
theorem go_powN {m' n' : Nat} (h : n' ≤ 1000000 ∧ m' < 2 ^ 63) (q : Q (.int ((m' ^ n' : Nat) : Int)) H) : rI CPow (fun i j => .int (i ^ j.toNat)) (.int (m' : Int)) (.int (n' : Int)) H Q :=
  ⟨_, _, rfl, rfl, ⟨by omega, by omega, by rw [Int.natAbs_natCast]; omega⟩, by show Q (.int ((m' : Int) ^ ((n' : Int).toNat))) H; rw [Int.toNat_natCast]; rw [Int.natCast_pow] at q; exact q⟩
theorem call_reprD' {X : Cx} {k : Nat} (ga : GA X.A) (hr : Room k X.A) (e : X.K = K := by (conv => lhs; whnf)) : CallR X (.builtin "repr") (rReprD K) := by
  subst e
  exact call_reprD ga hr
theorem go_reprD {d : PyData} (h : Dp K H (.ref a) d) (hs : d.showable = true ∧ d.hasDict = false ∧ d.depth ≤ 60 ∧ d.shown.length ≤ sizeLine) (q : Q (.str d.shown) H) : rReprD K [.ref a] H Q := ⟨a, d, rfl, h, hs.1, hs.2.1, hs.2.2.1, hs.2.2.2, q⟩
theorem go_reprT (h : Dp K H v (.tuple ds)) (hs : (PyData.tuple ds).showable = true ∧ (PyData.tuple ds).hasDict = false ∧ (PyData.tuple ds).depth ≤ 60 ∧ (PyData.tuple ds).shown.length ≤ sizeLine) (q : Q (.str (PyData.tuple ds).shown) H) : rReprD K [v] H Q := by
  obtain ⟨b, xs, rfl, _⟩ := h.tupE
  exact go_reprD h hs q
theorem pe_revT' {X : Cx} {e : Expr} {te : TE} {k : Nat} {p1 p2 p3 pos : Pos} (he : PE X e te) (eK : X.K = K := by (conv => lhs; whnf)) : PE X (.Subscript e (.Slice none none (some (.UnaryOp .USub (.Constant (.int 1) k p1) p2)) p3) pos) (tRevT K te) := by
  subst eK
  exact pe_revT he
def RvT (K : PySem.W.Frag) (Q : VK) : VK := fun x H1 => ∃ a xs, x = .ref a ∧ SqT K H1 a xs ∧ ∀ p, H1 p = none → Q (.ref p) (upd H1 p (.tup xs.reverse))
theorem go_revt (q : ta σ H (RvT K Q)) : tRevT K ta σ H Q := q
theorem go_rvt {xs ys : List V} (h : SqT K H a xs) (e : xs.reverse = ys) (q : ∀ p H', H p = none → Same H H' → H' p = some (.tup ys) → Q (.ref p) H') : RvT K Q (.ref a) H := ⟨a, xs, rfl, h, fun p hp => q p _ hp (same_new hp) (by rw [upd_same, e])⟩
theorem pg_unl' {X : Cx} {es : List Expr} {k : Nat} {pos : Pos} {tg : TGs} (n : Nat) (h : PGs X es tg) (eK : X.K = K := by (conv => lhs; whnf)) (hc : X.calm = true := by rfl)
    (hn : (assignEach es X.env).length = n := by rfl) (hst : (assignEach es X.env).findIdx? (·.1) = none := by rfl) : PG X (.Tuple es k pos) (gUnl K n tg) := by
  subst eK
  exact pg_unl hc h hn hst
theorem go_gunl {k : Nat} {gs : TGs} {xs : List V} {QS : L2.St → Hp → Prop} (h : SqL K H a xs) (hl : xs.length = k) (q : gs xs σ H QS) : gUnl K k gs (.ref a) σ H QS := ⟨a, xs, rfl, h, hl, q⟩
theorem pi_zipA' {X : Cx} {e1 e2 : Expr} {ta : TA} {p pos tpos : Pos} {elts : List Expr} {kk : Nat} (hg : Gl X "zip") (hm : X.mg "zip" = none) (ha : PA X [e1, e2] ta) (eK : X.K = K := by (conv => lhs; whnf)) (hs : starEach [e1, e2] X.env = (false, eval e1 X.env) :: starEach [e2] X.env := by rfl) (hpl : (backTo pos (starEach [e2] X.env)).any (·.1) = false := by rfl) : PI X (.Tuple elts kk tpos) (.Call (.Name "zip" p) [e1, e2] [] pos) (RZ.iZipA K ta) := by
  subst eK
  exact RZ.pi_zipA hg hm ha hs hpl
/-- C(..) -/
def MakR (C : Addr) (sp : Sp) (dvs : List V) (E : XK) (Q : VK) : List V → Hp → Prop := fun vs H1 => ∀ x dx, H1 x = none → H1 dx = none → dx ≠ x → sp (.ref x :: (vs ++ dvs)) (upd (upd H1 dx (.own x)) x (.ins C dx [])) (fun v H2 => v = .non ∧ Q (.ref x) H2) E
theorem go_make0 {dvs : List V} {E : XK} (q : t σ H (MakR C sp dvs E Q)) : tMake C sp dvs E t σ H Q := q
/-- x op= e -/
def AugK (i : Nat) (σ : L2.St) (n : L2.St → Hp → Prop) : VK := fun z H2 => n (σ.set i (some z)) H2
theorem go_aug {i : Nat} {ti : TIp} {n' b' c' : L2.St → Hp → Prop} {rt : VK} (h : σ[i]? = some (some x)) (q : ta σ H fun y H1 => ti x y H1 (AugK i σ n')) : tAug i ta ti ⟨n', rt, b', c'⟩ σ H := ⟨x, h, q⟩
theorem go_augk {i : Nat} {σ' : L2.St} {n' : L2.St → Hp → Prop} (e : σ.set i (some x) = σ') (q : n' σ' H) : AugK i σ n' x H := by subst e; exact q
def rMn : List V → Hp → VK → Prop := fun xs H Q => ∃ i j, xs = [.int i, .int j] ∧ Q (.int (if j < i then j else i)) H
def rMx : List V → Hp → VK → Prop := fun xs H Q => ∃ i j, xs = [.int i, .int j] ∧ Q (.int (if j > i then j else i)) H
def rIn1 : List V → Hp → VK → Prop := fun xs H Q => (∃ i, xs = [.int i] ∧ Q (.int i) H) ∨ ∃ k, xs = [.bl k] ∧ Q (.int (if k then 1 else 0)) H
def rAb : List V → Hp → VK → Prop := fun xs H Q => ∃ i, xs = [.int i] ∧ Q (.int (if i < 0 then -i else i)) H
def rStI : List V → Hp → VK → Prop := fun xs H Q => ∃ i, xs = [.int i] ∧ i.natAbs.log2 < 1920 ∧ Q (.str (toString i)) H
def rLnS : List V → Hp → VK → Prop := fun xs H Q => ∃ z, xs = [.str z] ∧ z.length ≤ sizeLine ∧ Q (.int z.length) H
def rAdS : R2 := fun x y H Q => ∃ i j, x = .str i ∧ y = .str j ∧ i.length + j.length ≤ sizeLine ∧ Q (.str (i ++ j)) H
def rIsNo : R2 := fun x y H Q => y = .non ∧ Q (.bl (decide (x = .non))) H
def rNotNo : R2 := fun x y H Q => y = .non ∧ Q (.bl (!decide (x = .non))) H
theorem call_min2' {X : Cx} (hc : X.calm = true) : CallR X (.builtin "min") rMn := call_min2 hc
theorem call_max2' {X : Cx} (hc : X.calm = true) : CallR X (.builtin "max") rMx := call_max2 hc
theorem call_int1' {X : Cx} : CallR X (.type "int") rIn1 := call_int1
theorem call_abs' {X : Cx} : CallR X (.builtin "abs") rAb := call_abs
theorem call_str_int' {X : Cx} : CallR X (.type "str") rStI := call_str_int
theorem call_len_str' {X : Cx} : CallR X (.builtin "len") rLnS := call_len_str
theorem op_add_str' {X : Cx} : OpR X (binaryOp .Add) rAdS := op_add_str
theorem op_isN' {X : Cx} : OpR X (compareOp .Is) rIsNo := op_isN
theorem op_notN' {X : Cx} : OpR X (compareOp .IsNot) rNotNo := op_notN
theorem go_min2 {m' n' : Nat} (q : Q (.int ((min m' n' : Nat) : Int)) H) : rMn [V.int (m' : Int), V.int (n' : Int)] H Q := by
  refine ⟨_, _, rfl, ?_⟩
  by_cases h : n' < m'
  · rw [if_pos (by omega)]
    rw [Nat.min_eq_right (by omega)] at q
    exact q
  · rw [if_neg (by omega)]
    rw [Nat.min_eq_left (by omega)] at q
    exact q
theorem go_max2 {m' n' : Nat} (q : Q (.int ((max m' n' : Nat) : Int)) H) : rMx [V.int (m' : Int), V.int (n' : Int)] H Q := by
  refine ⟨_, _, rfl, ?_⟩
  by_cases h : n' > m'
  · rw [if_pos (by omega)]
    rw [Nat.max_eq_right (by omega)] at q
    exact q
  · rw [if_neg (by omega)]
    rw [Nat.max_eq_left (by omega)] at q
    exact q
theorem go_int1 {i : Int} (q : Q (.int i) H) : rIn1 [V.int i] H Q := .inl ⟨i, rfl, q⟩
theorem go_intB {k : Bool} (q : Q (.int (((if k then 1 else 0 : Nat)) : Int)) H) : rIn1 [V.bl k] H Q := .inr ⟨k, rfl, by cases k <;> exact q⟩
theorem go_absN {m' : Nat} (q : Q (.int (m' : Int)) H) : rAb [V.int (m' : Int)] H Q := ⟨_, rfl, by rw [if_neg (by omega)]; exact q⟩
theorem go_isN (q : Q (.bl (decide (x = .non))) H) : rIsNo x .non H Q := ⟨rfl, q⟩
theorem go_notN (q : Q (.bl (!decide (x = .non))) H) : rNotNo x .non H Q := ⟨rfl, q⟩
theorem mi_fr {H0 : Hp} {k : Nat} (s : Mi a k H H') (n : H0 a = none) (h : Same H0 H) : Same H0 H' := fun c o e => s.2 c o (fun z => by rw [z, n] at e; cases e) (h c o e)
theorem free_of {H0 : Hp} (n : H a = none) (s : Same H0 H) : H0 a = none := s.free n
theorem lg_lt {x n : Nat} (h : x < 2 ^ n) (hn : 0 < n) : x.log2 < n := by
  rcases Nat.eq_zero_or_pos x with z | z
  · subst z; exact hn
  · exact (Nat.log2_lt (by omega)).mpr h
/-- a bound for numbers that are shown -/
def bigN : Nat := 10 ^ 400
theorem shw_pair {x y : Nat} (hx : x < bigN) (hy : y < bigN) : (PyData.tuple [.int x, .int y]).showable = true ∧ (PyData.tuple [.int x, .int y]).hasDict = false ∧ (PyData.tuple [.int x, .int y]).depth ≤ 60 ∧ (PyData.tuple [.int x, .int y]).shown.length ≤ sizeLine := by
  unfold bigN at hx hy
  have l : ∀ z : Nat, z < 10 ^ 400 → z.log2 < 1920 := fun z hz => lg_lt (Nat.lt_trans hz (by decide +kernel)) (by decide)
  have s : ∀ z : Nat, z < 10 ^ 400 → (PyData.shown (.int (z : Int))).length ≤ 401 := fun z hz => by
    have e := int_text_length_le10 (a := (z : Int)) (k := 400) (by decide) (by rw [Int.natAbs_natCast]; exact hz)
    show (Str.ofString (toString (z : Int))).length ≤ 401
    rw [PySem.ofString_length]; exact e
  refine ⟨?_, rfl, by simp [PyData.depth, PyData.depthAll], ?_⟩
  · simp only [PyData.showable, PyData.showableAll, Bool.and_true, Bool.and_eq_true, decide_eq_true_eq, Int.natAbs_natCast]
    exact ⟨l x hx, l y hy⟩
  · have := PyData.shown_le 401 (by decide) (.tuple [.int (x : Int), .int (y : Int)]) (by
      simp only [PyData.leavesShort, PyData.leavesShortAll, Bool.and_true, Bool.and_eq_true, decide_eq_true_eq]
      exact ⟨s x hx, s y hy⟩)
    refine Nat.le_trans this ?_
    have w : ∀ z : Nat, z < 10 ^ 400 → PyData.weight (.int (z : Int)) ≤ 1920 := fun z hz => by
      have := l z hz
      simp only [PyData.weight, Int.natAbs_natCast]
      split <;> omega
    have w1 := w x hx
    have w2 := w y hy
    simp only [PyData.weight, PyData.weightAll] at w1 w2 ⊢
    clear hx hy
    unfold sizeLine
    omega
theorem go_reprPr {x y : Nat} (h : Dp K H v (.tuple [.int x, .int y])) (hx : x < bigN) (hy : y < bigN) (q : Q (.str (PyData.tuple [.int x, .int y]).shown) H) : rReprD K [v] H Q := go_reprT h (shw_pair hx hy) q
end
end Mv
set_option Elab.async false
namespace T
open PySem L2 Mv
section
variable {K : PySem.W.Frag} {C a : Addr} {H H' : Hp} {v u : V} {rs qs : List (List Pm.Cut)} {Q : VK} {E : XK} {σ : L2.St} {t : TA} {sp : Sp} {m : Str} {k : Nat}
theorem up_plan (s : Same H H') (h : PlanAt K C H v rs) : PlanAt K C H' v rs := h.same s
theorem mi_plan (s : Mi a k H H') (hk : k ≠ 3) (h : PlanAt K C H v rs) : PlanAt K C H' v rs := by
  obtain ⟨b, dx, R, Pt, e, eb, h1, h2⟩ := h.ex
  refine ⟨⟨b, dx, R, Pt, e, s.2 b _ (fun z => ?_) eb, mi_dp s h1, mi_dp s h2⟩, h.ok⟩
  obtain ⟨⟨C', dx', fs, ea, hl⟩, _⟩ := s
  rw [z, ea] at eb
  cases eb
  exact hk hl.symm
/-- a method of a plan -/
theorem go_mep (h : PlanAt K C H v rs) (m1 : m ≠ "own_rounds") (m2 : m ≠ "own_parts") (m3 : m ≠ "own_growth") (q : t σ H fun vs H2 => sp (v :: vs) H2 Q E) : MeR C m sp [] E t σ Q v H := by
  obtain ⟨a, dx, fs, rfl, ea, hl⟩ := plan_obj h
  exact go_mer ea (hl m m1 m2 m3) q
/-- == of plans -/
theorem go_eqP (I : ClsI K C) (h1 : PlanAt K C H v rs) (h2 : PlanAt K C H u qs) (q : Q (.bl (decide (rs = qs))) H) : rEqO K C (sp_peq K C) v u H Q := by
  obtain ⟨a, dx, fs, rfl, ea, _⟩ := plan_obj h1
  obtain ⟨b, dy, fs', rfl, eb, _⟩ := plan_obj h2
  exact ⟨a, dx, fs, .ref C, rfl, ea, I.ty eb, I.nf, _, _, rs, qs, rfl, h1, h2, q⟩
theorem go_neP (I : ClsI K C) (h1 : PlanAt K C H v rs) (h2 : PlanAt K C H u qs) (q : Q (.bl (!decide (rs = qs))) H) : rNeO K C (sp_peq K C) v u H Q := by
  obtain ⟨a, dx, fs, rfl, ea, _⟩ := plan_obj h1
  obtain ⟨b, dy, fs', rfl, eb, _⟩ := plan_obj h2
  exact ⟨a, dx, fs, .ref C, rfl, ea, I.ty eb, I.nf, _, _, rs, qs, rfl, h1, h2, _, rfl, q⟩
theorem go_lenNm {ns : List Nat} (h : Dp K H v (dNm ns)) (q : Q (.int (ns.length : Int)) H) : rLenSeq K [v] H Q := go_lenD h (by rw [List.length_map]; exact q)
theorem go_isiNm {ns : List Nat} (h : Dp K H v (dNm ns)) (q : Q (.bl true) H) : rIsi K [v, .ty "tuple"] H Q := go_isiD h q
/-- the name can be shown -/
def NmShw (ns : List Nat) : Prop := (dNm ns).showable = true ∧ (dNm ns).hasDict = false ∧ (dNm ns).depth ≤ 60 ∧ (dNm ns).shown.length ≤ sizeLine
theorem go_reprNm {ns : List Nat} (h : Dp K H v (dNm ns)) (hs : NmShw ns) (q : Q (.str (dNm ns).shown) H) : rReprD K [v] H Q := go_reprT h hs q
theorem nd_nm (ns : List Nat) : (dNm ns).hasDict = false := by
  unfold dNm
  rw [PyData.hasDict]
  induction ns with
  | nil => rfl
  | cons n ns ih => rw [List.map_cons, PyData.hasDictAll, ih]; rfl
theorem go_isi {c : Bool} {D : Addr} {tv : Value} (h1 : TyX K H v tv) (h2 : PySem.W.kitOne K tv (.ref D) = some c) (q : Q (.bl c) H) : rIsi K [v, .ref D] H Q := ⟨_, _, _, _, c, rfl, .own D, h1, h2, q⟩
end
end T
set_option Elab.async false
set_option maxRecDepth 100000
set_option maxHeartbeats 4000000
/-! sorted of lists of tuples of ints of one length, however many. -/
namespace SrtO
open PySem PySem.Spec PyProof.Rows
section
variable {prog : Program} {w : World} {A : Around} {E : Value → Shared → Prop} {s : Shared}
theorem mv_swo (r : Value → Int) : Swo fun v u => decide (r v < r u) := by
  refine ⟨fun x y h => ?_, fun x y z h1 h2 => ?_⟩
  · have := of_decide_eq_true h
    exact decide_eq_false (by omega)
  · have a := of_decide_eq_false h1
    have b := of_decide_eq_false h2
    exact decide_eq_false (by omega)
theorem mv_cmp {vs : List Value} {d : Nat} {B : Int} {r : Value → Int} (x : TS.TupsOk s.heap d B vs) (hr : ∀ v, v ∈ vs → ∀ ns, TS.TupInts s.heap v ns → r v = TS.code B ns) : Cmp prog w A s (tuples' true) (fun p => p.1 ∈ vs) (lt2 fun v u => decide (r v < r u)) := by
  intro p q hm hm'
  obtain ⟨ns, t1, l1, b1⟩ := x _ hm
  obtain ⟨ms, t2, l2, b2⟩ := x _ hm'
  show wpAny (model prog w) A (keyLt' (tuples' true) p.1 q.1) (fun c s' => s' = s ∧ c = decide (r p.1 < r q.1)) (fun _ _ => False) s
  rw [hr _ hm ns t1, hr _ hm' ms t2]
  obtain ⟨a, xs, e, ⟨o, ho, hc, n, hd⟩, i1⟩ := t1
  obtain ⟨a', ys, e', ⟨o', ho', hc', n', hd'⟩, i2⟩ := t2
  rw [e, e']
  refine PySem.W.kat_lt ho hd ho' hd' ?_
  have z1 := i1.length
  have z2 := i2.length
  rw [show decide (xs.size < ys.size) = false from decide_eq_false (by simp at z1 z2; omega)]
  exact TS.lex_ints 0 i1 i2 (by omega) b1 b2 ⟨rfl, rfl⟩
theorem mv_sortable {a : Addr} {vs : List Value} {d : Nat} {B : Int} {r : Value → Int} (h0 : 0 < vs.length) (hd : 1 ≤ d) (x : TS.TupsOk s.heap d B vs) (hr : ∀ v, v ∈ vs → ∀ ns, TS.TupInts s.heap v ns → r v = TS.code B ns) (ha : ∀ o, s.heap.get? a = some o → o.cls ≠ .type "tuple") :
    SortableO prog w A s a vs fun v u => decide (r v < r u) := by
  intro h' keep
  have kp : ∀ b o, s.heap.get? b = some o → o.cls = .type "tuple" → h'.get? b = some o := fun b o e c => keep b o (fun z => by subst z; exact ha o e c) e
  have x' := x.keeps kp
  obtain ⟨fs, h1, h2, h3⟩ := TS.firsts_of hd vs x'
  refine ⟨tuples' true, fun Q E hq => ?_, mv_cmp (s := { s with heap := h' }) x' fun v hv ns t => ?_⟩
  · refine PySem.W.kat_kind (T := .type "int") h1 (by omega) (fun f hm => ?_) (by rfl) ?_
    · obtain ⟨m, t, rfl⟩ := h3 f hm
      exact PySem.W.Looks.now
    · have e : (Value.type "int" != Value.type "tuple") = true := by first | decide +kernel | rfl | decide
      rw [e]
      exact hq
  · obtain ⟨ns0, t0, _⟩ := x v hv
    have e : ns = ns0 := t.ints.symm.trans (t0.keeps kp).ints
    rw [e]
    exact hr v hv ns0 t0
theorem mv_sorted {l : Addr} {vs : List Value} {d : Nat} {B : Int} {r : Value → Int} {Q : Value → Shared → Prop} (hl : s.heap.IsList l vs.toArray) (hz : vs.length ≤ sizeLine) (hd : 1 ≤ d) (x : TS.TupsOk s.heap d B vs) (hr : ∀ v, v ∈ vs → ∀ ns, TS.TupInts s.heap v ns → r v = TS.code B ns)
    (h : ∀ (h' : Heap) (d : Addr) (out : List Value), Srtd (fun v u => decide (r v < r u)) out → Stb (fun v u => decide (r v < r u)) out vs → (∀ b o, s.heap.get? b = some o → h'.get? b = some o) → s.heap.objs.size ≤ d → (∃ n, h'.get? d = some (seqObj "list" out.toArray n)) → Q (.ref d) { s with heap := h' }) :
    wpAny (model prog w) A (call (.builtin "sorted") [.ref l]) Q E s := by
  refine sorted_ord (mv_swo r) hl hz (fun h2 h₁ a ha kk => ?_) fun out hs hb => ?_
  · have kp : ∀ b o, s.heap.get? b = some o → o.cls = .type "tuple" → h₁.get? b = some o := fun b o e _ => (kk b o e).2
    refine mv_sortable (s := { s with heap := h₁ }) (by omega) hd (x.keeps kp) (fun v hv ns t => ?_) fun o e => ?_
    · obtain ⟨ns0, t0, _⟩ := x v hv
      have e : ns = ns0 := t.ints.symm.trans (t0.keeps kp).ints
      rw [e]
      exact hr v hv ns0 t0
    · have e' : some o = some (seqObj "list" vs.toArray 0) := e.symm.trans ha
      cases e'
      intro c
      exact absurd (Value.type.inj c) (by decide)
  · exact h _ _ out hs hb (fun b o e => sortedAll_old e) (Nat.le_succ _) (sortedAll_at s.heap vs out.toArray)
end
end SrtO
namespace Mv
open PySem PySem.Spec PyProof.Rows L2
/-- a tuple of ints as data -/
def tI (k : List Int) : PyData := .tuple (k.map PyData.int)
/-- sorted(xs), xs a list of tuples of d ints each in [0, B) -/
def rSortT (K : PySem.W.Frag) : List V → Hp → VK → Prop := fun vs H Q => ∃ (a : Addr) (xs : List V) (ks : List (List Int)) (d : Nat) (B : Int), vs = [V.ref a] ∧ SqL K H a xs ∧ DpAll K H xs (ks.map tI) ∧ 1 ≤ d ∧ (∀ k ∈ ks, k.length = d ∧ TS.Bd B k) ∧
  ∀ (ys : List V) (js : List (List Int)) (p : Addr) (H' : Hp), js.Perm ks → js.Pairwise (fun x y => TS.code B x ≤ TS.code B y) → H p = none → Same H H' → H' p = some (.lst ys) → DpAll K H' ys (js.map tI) → Q (.ref p) H'
section
variable {K : PySem.W.Frag}
theorem tups_raw {X : Cx} {pins : List (Addr × Obj)} {σ : L2.St} {H : Hp} {s : Shared} (I : Inv X pins σ H s) : ∀ {xs : List V} {ks : List (List Int)} {its : List Value}, DpAll X.K H xs (ks.map tI) → Vals xs its →
    its.map (TS.intsOf s.heap) = ks ∧ ∀ u ∈ its, ∃ t ns, u = Value.ref t ∧ ns ∈ ks ∧ SqT X.K H t (ns.map V.int) ∧ TS.TupInts s.heap u ns
  | _, [], _, .nil, .nil => ⟨rfl, fun u hu => by simp at hu⟩
  | _, k :: ks, _, .cons a h, .cons (b := u) r rs => by
    obtain ⟨e, h2⟩ := tups_raw I h rs
    obtain ⟨t, rfl, ht⟩ := Dp.tupIE a
    obtain rfl : u = Value.ref t := r
    have raw := tupI_raw I ht
    refine ⟨by rw [List.map_cons, raw.ints, e], fun v hv => ?_⟩
    rcases List.mem_cons.mp hv with rfl | hv
    · exact ⟨t, k, rfl, List.mem_cons_self .., ht, raw⟩
    · obtain ⟨t', ns, e1, e2, e3, e4⟩ := h2 v hv
      exact ⟨t', ns, e1, List.mem_cons_of_mem _ e2, e3, e4⟩
theorem tups_back {H : Hp} {h : Heap} : ∀ {out : List Value}, (∀ u ∈ out, ∃ t ns, u = Value.ref t ∧ SqT K H t (ns.map V.int) ∧ TS.TupInts h u ns) → DpAll K H (out.map backV) ((out.map (TS.intsOf h)).map tI)
  | [], _ => .nil
  | u :: out, hu => by
    obtain ⟨t, ns, rfl, ht, raw⟩ := hu u (List.mem_cons_self ..)
    refine .cons ?_ (tups_back fun v hv => hu v (List.mem_cons_of_mem _ hv))
    rw [raw.ints]
    exact Dp.tupI ht
theorem cr_sortT' {X : Cx} (e : X.K = K := by (conv => lhs; whnf)) : CallR X (.builtin "sorted") (rSortT K) := by
  subst e
  intro pins s σ H vs us Q I r h
  obtain ⟨a, xs, ks, d, B, rfl, hs, hx, hd, hk, q⟩ := h
  obtain ⟨its, rv, hl, hz⟩ := I.list hs
  obtain ⟨u, rfl, ru⟩ := vals1 r
  obtain rfl : u = Value.ref a := ru
  obtain ⟨ek, hraw⟩ := tups_raw I hx rv
  refine SrtO.mv_sorted (r := fun v => TS.code B (TS.intsOf s.heap v)) hl.isList (by rw [← rv.length]; exact hz) hd (fun v hv => ?_) (fun v hv ns t => by rw [t.ints]) fun h' p out h1 h2 kp hp hn => ?_
  · obtain ⟨t, ns, rfl, hm, _, raw⟩ := hraw v hv
    exact ⟨ns, raw, hk ns hm⟩
  · have h3 : ∀ u ∈ out, ∃ t ns, u = Value.ref t ∧ SqT X.K H t (ns.map V.int) ∧ TS.TupInts s.heap u ns := fun u hu => by
      obtain ⟨t, ns, e1, _, e3, e4⟩ := hraw u (h2.perm.mem_iff.mp hu)
      exact ⟨t, ns, e1, e3, e4⟩
    obtain ⟨n, hn⟩ := hn
    have hfr : H p = none := I.hok.fresh hp
    have hvb : Vals (out.map backV) out := vals_back fun u hu => by
      obtain ⟨t, _, e1, _⟩ := h3 u hu
      exact ⟨t, e1⟩
    refine ⟨.ref p, upd H p (.lst (out.map backV)), I.laid (t' := s.toks) kp hp ⟨?_, out, n, hvb, hn⟩, rfl, ?_⟩
    · rw [List.length_map, h2.len, ← rv.length]; exact hz
    · refine q (out.map backV) (out.map (TS.intsOf s.heap)) p _ (by rw [← ek]; exact h2.perm.map _) ?_ hfr (same_new hfr) upd_same ((tups_back h3).up (same_new hfr))
      rw [List.pairwise_map]
      exact h1.imp fun {x y} z => by
        have := of_decide_eq_false z
        omega
end
end Mv
set_option Elab.async false
set_option maxRecDepth 100000
set_option maxHeartbeats 4000000
/-! Methods of lists, three names at once, // of great numbers: for the steps. -/
namespace Mv
open PySem PySem.Spec PyProof.Rows L2
def BmR (K : PySem.W.Frag) (T : String) (r : V → List V → Hp → VK → Prop) (t : TA) (σ : L2.St) (Q : VK) : VK := fun x H1 => tyV K T x H1 ∧ t σ H1 fun xs H2 => r x xs H2 Q
def Par3 (i j l : Nat) (n : L2.St → Hp → Prop) (σ : L2.St) : List V → Hp → Prop := fun vs H1 => ∃ v w u, vs = [v, w, u] ∧ n (((σ.set i (some v)).set j (some w)).set l (some u)) H1
section
variable {K : PySem.W.Frag} {σ σ' : L2.St} {H H' : Hp} {Q : VK} {n b c : L2.St → Hp → Prop} {rt : VK} {v w u y : V} {xs zs : List V} {t : TA} {to : TE} {a a' : Addr} {r : V → List V → Hp → VK → Prop}
theorem pe_bm' {X : Cx} {T : String} {name : Str} {id : String} {o e : Expr} {es : List Expr} {apos cpos : Pos} (pa : PlainAttrs T) (slot : Slot T name id) (hty : typeOf (.builtin id) = pure (.type "method_descriptor")) (hm : MtR X id r) (ho : PE X o to) (ha : PA X (e :: es) t) (eK : X.K = K := by (conv => lhs; whnf)) (hbase : attributeBase o name X.env (eval o X.env) = eval o X.env := by rfl)
    (hfew : ((backTo cpos (starEach (e :: es) X.env)).all (fun x => !x.1) && (backToKw cpos (keywordEach [] X.env)).all (fun x => x.1.isSome) && decide ((e :: es).length + ([] : List Keyword).length + (if ([] : List Keyword).isEmpty then 0 else 1) < 30)) = true := by rfl) (hline : (apos.endLine == cpos.line) = true := by rfl)
    (hs : starEach (e :: es) X.env = (false, eval e X.env) :: starEach es X.env := by rfl) (hplain : (backTo cpos (starEach es X.env)).any (·.1) = false := by rfl) : PE X (.Call (.Attribute o name apos) (e :: es) [] cpos) (tBM K T r to t) := by
  subst eK
  exact pe_bm pa slot hty hm ho ha hbase hfew hline hs hplain
theorem go_bm (q : to σ H (BmR K "list" r t σ Q)) : tBM K "list" r to t σ H Q := q
theorem go_bmL (h : H a = some (.lst xs)) (q : t σ H fun vs H2 => r (.ref a) vs H2 Q) : BmR K "list" r t σ Q (.ref a) H := ⟨.inl ⟨rfl, _, SqL.of h⟩, q⟩
theorem go_ext (h1 : H a = some (.lst xs)) (h2 : H a' = some (.lst zs)) (hz : xs.length + zs.length ≤ sizeLine) (q : Q .non (upd H a (.lst (xs ++ zs)))) : rExtend (.ref a) [.ref a'] H Q := ⟨a, a', xs, zs, rfl, rfl, h1, h2, hz, q⟩
theorem go_app (h1 : H a = some (.lst xs)) (hz : xs.length < sizeLine) (q : Q .non (upd H a (.lst (xs ++ [y])))) : rAppend (.ref a) [y] H Q := ⟨a, xs, y, rfl, rfl, h1, hz, q⟩
theorem go_par3 {i j l : Nat} (q : t σ H (Par3 i j l n σ)) : tPar3 i j l t ⟨n, rt, b, c⟩ σ H := q
theorem go_par3k {i j l : Nat} (e : ((σ.set i (some v)).set j (some w)).set l (some u) = σ') (q : n σ' H) : Par3 i j l n σ [v, w, u] H := by subst e; exact ⟨v, w, u, rfl, q⟩
theorem go_fdX {m' n' : Nat} (h : n' ≠ 0 ∧ n'.log2 < 9000) (q : Q (.int ((m' / n' : Nat) : Int)) H) : rI CDivX (fun i j => .int (i.fdiv j)) (.int (m' : Int)) (.int (n' : Int)) H Q :=
  ⟨_, _, rfl, rfl, ⟨by omega, by rw [Int.natAbs_natCast]; exact h.2⟩, by
    show Q (.int ((m' : Int).fdiv (n' : Int))) H
    rw [Int.fdiv_eq_ediv_of_nonneg _ (by omega)]
    exact q⟩
/-- sorted -/
theorem go_sort {ks : List (List Int)} (d : Nat) (B : Int) (h1 : SqL K H a xs) (h2 : DpAll K H xs (ks.map tI)) (hd : 1 ≤ d) (hk : ∀ k ∈ ks, k.length = d ∧ TS.Bd B k)
    (q : ∀ (ys : List V) (js : List (List Int)) (p : Addr) (H' : Hp), js.Perm ks → js.Pairwise (fun x y => TS.code B x ≤ TS.code B y) → H p = none → Same H H' → H' p = some (.lst ys) → DpAll K H' ys (js.map tI) → Q (.ref p) H') : rSortT K [.ref a] H Q := ⟨a, xs, ks, d, B, rfl, h1, h2, hd, hk, q⟩
end
end Mv
set_option Elab.async false
set_option maxRecDepth 100000
namespace Mv
open PySem PySem.Spec PyProof.Rows L2
/-- C(e, .., k = v, ..): n values by place, the keywords ks -/
structure MaN (P : Program) (w : World) (K : PySem.W.Frag) (mg : Str → Option Value) (base : Heap) (k : Nat) (x : Str) (C : Addr) (sp : Sp) (n : Nat) (ks : List Str) (gV : List V → List V → List V) : Prop where
  ex : ∃ (f : Addr) (fd : FuncData) (ps : List Str) (g : List Value → List Value → List Value), Mk K C f ∧ FnOk P w K mg base CX0 k f fd ps sp ∧ mg x = some (.ref C) ∧ KBn K fd ps (n + 1) ks g gV
section
variable {X : Cx} {k j n : Nat} {C : Addr} {ks : List Str} {sp : Sp} {x : Str} {p pos : Pos} {e : Expr} {es : List Expr} {kws : List Keyword} {t tk : TA} {gV : List V → List V → List V}
theorem pe_man (c : MaN X.prog X.w X.K X.mg X.base k x C sp n ks gV) (hr : Room j X.A) (hk : k + 1 ≤ j) (hg : Gl X x) (ha : PA X (e :: es) t) (hkw : PK X kws tk)
    (hall : (backToKw pos (keywordEach kws X.env)).all (·.1.isSome) = true := by rfl) (hks : (backToKw pos (keywordEach kws X.env)).filterMap (·.1) = ks := by rfl)
    (hdb : (x == ("__debug__" : Str)) = false := by decide) (he : starEach (e :: es) X.env = (false, eval e X.env) :: starEach es X.env := by rfl)
    (hpl : ((backTo pos (starEach (e :: es) X.env)).any (·.1) || (backToKw pos (keywordEach kws X.env)).any (·.1.isNone)) = false := by rfl) :
    PE X (.Call (.Name x p) (e :: es) kws pos) (tMakeK C n ks.length sp gV E0 t tk) := by
  obtain ⟨f, fd, ps, g, M, F, hm, b⟩ := c.ex
  exact pe_makeK M F (hr.mono hk) hg hm b pass0 ha hkw hall hks hdb he hpl
end
section
variable {σ : L2.St} {H : Hp} {Q : VK} {t tk : TA} {C : Addr} {sp : Sp} {n m : Nat} {E : XK} {gV : List V → List V → List V}
/-- behind the keywords of a making -/
def MakK (C : Addr) (n m : Nat) (sp : Sp) (gV : List V → List V → List V) (E : XK) (Q : VK) (vs zs : List V) (H2 : Hp) : Prop := vs.length = n ∧ zs.length = m ∧ ∀ x dx, H2 x = none → H2 dx = none → dx ≠ x →
  sp (gV (.ref x :: vs) zs) (upd (upd H2 dx (.own x)) x (.ins C dx [])) (fun v H3 => v = .non ∧ Q (.ref x) H3) E
def MakA (C : Addr) (n m : Nat) (sp : Sp) (gV : List V → List V → List V) (E : XK) (Q : VK) (tk : TA) (σ : L2.St) (vs : List V) (H1 : Hp) : Prop := tk σ H1 fun zs H2 => MakK C n m sp gV E Q vs zs H2
theorem go_makeK (q : t σ H fun vs H1 => MakA C n m sp gV E Q tk σ vs H1) : tMakeK C n m sp gV E t tk σ H Q := q
theorem go_makA {vs : List V} (q : tk σ H fun zs H2 => MakK C n m sp gV E Q vs zs H2) : MakA C n m sp gV E Q tk σ vs H := q
theorem op_in_seq' {X : Cx} {K : PySem.W.Frag} (e : X.K = K := by (conv => lhs; whnf)) : OpR X (compareOp .In) (rIn K false) := by
  subst e
  exact op_in_seq
theorem op_notIn_seq' {X : Cx} {K : PySem.W.Frag} (e : X.K = K := by (conv => lhs; whnf)) : OpR X (compareOp .NotIn) (rIn K true) := by
  subst e
  exact op_notIn_seq
theorem DpAll.strsE {K : PySem.W.Frag} {H : Hp} : ∀ {xs : List V} {ss : List Str}, DpAll K H xs (ss.map PyData.str) → xs = ss.map V.str
  | _, [], .nil => rfl
  | _, i :: is, .cons a h => by rw [a.strE, DpAll.strsE h]; rfl
theorem in_strs (s : Str) (ss : List Str) : inV (.str s) (ss.map V.str) = decide (s ∈ ss) := by
  induction ss with
  | nil => rfl
  | cons a l ih =>
    show (eqV (.str a) (.str s) || inV (.str s) (l.map V.str)) = _
    rw [ih]
    show ((a == s) || _) = _
    by_cases h : a = s
    · subst h
      simp
    · have : (a == s) = false := by simpa using h
      rw [this]
      simp [Ne.symm h]
theorem flat_strs (ss : List Str) : (ss.map V.str).all flatV = true := by
  rw [List.all_eq_true]
  intro x hx
  obtain ⟨y, _, rfl⟩ := List.mem_map.mp hx
  rfl
/-- in, not in, of a list or tuple of texts -/
theorem go_inSL {K : PySem.W.Frag} {v : V} {s : Str} {ss : List Str} {neg : Bool} (h : Dp K H v (.list (ss.map .str))) (q : Q (.bl (if neg then !decide (s ∈ ss) else decide (s ∈ ss))) H) : rIn K neg (.str s) v H Q := by
  obtain ⟨a, xs, rfl, hs, ha⟩ := h.lstE
  obtain rfl := DpAll.strsE ha
  exact ⟨a, _, rfl, .inl hs, rfl, flat_strs ss, by rw [in_strs]; exact q⟩
/-- the keywords behind the values by place -/
def gApp {α : Type} (us ws : List α) : List α := us ++ ws
theorem gApp_rel {vs zs : List V} {us ws : List Value} (r1 : Vals vs us) (r2 : Vals zs ws) : Vals (gApp vs zs) (gApp us ws) := r1.append r2
end
section
variable {K : PySem.W.Frag} {σ : L2.St} {H : Hp} {Q : VK} {vs : List Nat} {xs ys : List V} {te : TE} {g : TG} {a : Addr}
theorem pi_enumA' {X : Cx} {e : Expr} {ta : TA} {p pos tpos : Pos} {elts : List Expr} {kk : Nat} (hg : Gl X "enumerate") (hm : X.mg "enumerate" = none) (ha : PA X [e] ta) (eK : X.K = K := by (conv => lhs; whnf)) (hs : starEach [e] X.env = [(false, eval e X.env)] := by rfl) :
    PI X (.Tuple elts kk tpos) (.Call (.Name "enumerate" p) [e] [] pos) (iEnumA K ta) := by
  subst eK
  exact pi_enumA hg hm ha hs
/-- a comprehension over enumerate, of data without lists -/
theorem lcEnum {b : Bool} {i1 i2 : Nat} (f : Nat → PyData) (ha : SqK b K H a xs) (hk : ∀ H', Same H H' → SqK b K H' a xs) (hz : xs.length ≤ 100000) (hl : ∀ i, i < xs.length → NL (f i) = true) (hw : ∀ x y, wipe (((wipe σ vs).set i1 (some x)).set i2 (some y)) vs = wipe σ vs)
    (hs : ∀ (i : Nat) (x : V) (H1 : Hp) (Q' : VK), i < xs.length → xs[i]? = some x → Same H H1 → (∀ y H4, Same H1 H4 → Dp K H4 y (f i) → Q' y H4) → te (((wipe σ vs).set i1 (some (.int (i : Int)))).set i2 (some x)) H1 Q')
    (hd : ∀ D H' ys, H D = none → Same H H' → H' D = some (.lst ys) → DpAll K H' ys ((List.range xs.length).map f) → Q (.ref D) H') : LcR (gTup K 2 (gCons (gName i1) (gCons (gName i2) gNil))) tYes te vs σ Q (IteK b K a) H :=
  lcGen walk_enumK f hz hl (fun H' s => hk H' s) (fun i x H1 H2 Q' hi s1 hy hq => by
    obtain ⟨T, x', y', rfl, hT, rfl, e1, e2⟩ := hy
    obtain rfl := Option.some.inj e1
    have sT : Same H1 (upd H1 T (.tup [.int (i : Nat), y'])) := same_new hT
    refine ⟨T, _, rfl, .inl (.inl upd_same), rfl, _, _, rfl, _, _, rfl, rfl, hw _ _, hs i y' _ Q' hi e2 (s1.trans sT) fun y H4 s4 dy => hq y H4 (sT.trans s4) dy⟩) hd gTup2_mono
/-- a comprehension of objects: what holds of each stays when the heap grows, and when the list in making changes -/
theorem lcObj {J : It} {k : Nat} {G : Hp → Prop} {Y : Nat → Hp → V → Hp → Prop} (w : Walk J k G Y) (Rp : Nat → V → Hp → Prop) (hz : k ≤ 100000) (hm : ∀ i y H1 H2, Same H1 H2 → Rp i y H1 → Rp i y H2) (hu : ∀ i y H1 D zs o, H1 D = some (.lst zs) → Rp i y H1 → Rp i y (upd H1 D o)) (hG : ∀ H', Same H H' → G H')
    (hs : ∀ (i : Nat) (x : V) (H1 H2 : Hp) (Q' : VK), i < k → Same H H1 → Y i H1 x H2 → (∀ y H4, Same H1 H4 → Rp i y H4 → Q' y H4) → g x (wipe σ vs) H2 fun σ2 H3 => wipe σ2 vs = wipe σ vs ∧ te σ2 H3 Q')
    (hd : ∀ D H' ys, H D = none → Same H H' → H' D = some (.lst ys) → ys.length = k → (∀ (i : Nat) y, ys[i]? = some y → Rp i y H') → Q (.ref D) H') (hg : ∀ x σ' H' (P Q : L2.St → Hp → Prop), (∀ σ2 H2, P σ2 H2 → Q σ2 H2) → g x σ' H' P → g x σ' H' Q) : LcR g tYes te vs σ Q J H := by
  intro D hD
  refine lc_it w (fun i H' => Same H H' ∧ ∃ ys, H' D = some (.lst ys) ∧ ys.length = i ∧ ∀ (i : Nat) y, ys[i]? = some y → Rp i y H') ⟨same_new hD, [], upd_same, rfl, fun i y h => by simp at h⟩ (fun i H' _ h => hG H' h.1) ?_ ?_
  · rintro i x H1 H2 hi ⟨s, ys, ed, hlen, ha⟩ hy
    refine hg x _ H2 _ _ (fun σ2 H2 h => ⟨h.1, h.2⟩) (hs i x H1 H2 (fun y H4 => ∃ acc, H4 D = some (.lst acc) ∧ acc.length < sizeLine ∧ Same H (upd H4 D (.lst (acc ++ [y]))) ∧ ∃ ys, upd H4 D (.lst (acc ++ [y])) D = some (.lst ys) ∧ ys.length = i + 1 ∧ ∀ (i : Nat) z, ys[i]? = some z → Rp i z (upd H4 D (.lst (acc ++ [y])))) hi s hy fun y H4 s4 ry => ?_)
    have e4 := s4 _ _ ed
    refine ⟨ys, e4, ?_, same_over (s.trans s4) hD, ys ++ [y], upd_same, by simp [hlen], fun j z hz' => ?_⟩
    · rw [hlen]; unfold sizeLine; omega
    · rcases Nat.lt_trichotomy j ys.length with c | c | c
      · rw [List.getElem?_append_left c] at hz'
        exact hu _ _ _ _ _ _ e4 (hm _ _ _ _ s4 (ha j z hz'))
      · subst c
        rw [List.getElem?_append_right (Nat.le_refl _), Nat.sub_self] at hz'
        obtain rfl := Option.some.inj hz'
        rw [hlen]
        exact hu _ _ _ _ _ _ e4 ry
      · rw [List.getElem?_eq_none (by simp; omega)] at hz'
        cases hz'
  · rintro H1 ⟨s, ys, ed, hlen, ha⟩
    exact hd D H1 ys hD s ed hlen ha
/-- a comprehension with a test over a tuple: what is kept is not told -/
theorem lcFilT {j : Nat} {tt : TT} (ha : SqT K H a xs) (hz : xs.length ≤ 100000) (hw : ∀ x, wipe ((wipe σ vs).set j (some x)) vs = wipe σ vs)
    (ht : ∀ (i : Nat) (x : V) (H1 : Hp) (R : Bool → Hp → Prop), i < xs.length → xs[i]? = some x → Same H H1 → (∀ b H2, Same H1 H2 → R b H2) → tt ((wipe σ vs).set j (some x)) H1 R)
    (he : ∀ (i : Nat) (x : V) (H1 : Hp) (Q' : VK), i < xs.length → xs[i]? = some x → Same H H1 → (∀ y H2, Same H1 H2 → Q' y H2) → te ((wipe σ vs).set j (some x)) H1 Q')
    (hd : ∀ D H' ys, H D = none → Same H H' → H' D = some (.lst ys) → Q (.ref D) H') : LcR (gName j) tt te vs σ Q (Itt K a) H := by
  intro D hD
  refine lc_it walk_tup (fun i H' => Same H H' ∧ ∃ ys, H' D = some (.lst ys) ∧ ys.length ≤ i) ⟨same_new hD, [], upd_same, Nat.le_refl _⟩ (fun i H' _ h => Same.tup h.1 ha) ?_ ?_
  · rintro i x H1 H2 hi ⟨s, ys, ed, hlen⟩ ⟨rfl, hx⟩
    refine ⟨hw _, ht i x _ _ hi hx s fun b H3 s3 => ?_⟩
    cases b with
    | false => exact ⟨s.trans s3, ys, s3 _ _ ed, by omega⟩
    | true =>
      refine he i x _ _ hi hx (s.trans s3) fun y H4 s4 => ⟨ys, s4 _ _ (s3 _ _ ed), by unfold sizeLine; omega, same_over ((s.trans s3).trans s4) hD, ys ++ [y], upd_same, by simp; omega⟩
  · rintro H1 ⟨s, ys, ed, _⟩
    exact hd D H1 ys hD s ed
end
end Mv
set_option Elab.async false
set_option maxRecDepth 100000
/-! A dict changes: for the steps. -/
namespace Mv
open PySem PySem.Spec PyProof.Rows L2
/-- the dict at D may change, nothing else that was -/
def Bd (D : Addr) (H H' : Hp) : Prop := (∃ kvs, H D = some (.dK kvs)) ∧ Bu D H H'
def DgR (ty : TE) (σ : L2.St) (Q : VK) : VK := fun x H1 => ty σ H1 fun y H2 => ∃ a v, x = .ref a ∧ DGet H2 a y (some v) ∧ Q v H2
def DnR (td : TE) (σ : L2.St) (Q : VK) : VK := fun y H1 => td σ H1 fun x H2 => ∃ a o, x = .ref a ∧ DGet H2 a y o ∧ Q (.bl (!o.isSome)) H2
def DpR (td ty : TE) (σ : L2.St) (n : L2.St → Hp → Prop) : VK := fun v H1 => td σ H1 fun x H2 => ty σ H2 fun y H3 => ∃ a H4, x = .ref a ∧ DPut H3 a y v H4 ∧ n σ H4
section
variable {K : PySem.W.Frag} {σ : L2.St} {H H' : Hp} {Q : VK} {n b c : L2.St → Hp → Prop} {rt : VK} {x y v : V} {xs ys : List V} {td tv ty : TE} {a p q C dx D : Addr} {fs : List (Str × V)} {d : PyData} {ds : List PyData} {vs : List V} {kvs : List (Key × V)}
theorem bd_sqt (s : Bd D H H') (h : SqT K H p xs) : SqT K H' p xs := by
  obtain ⟨⟨z, e⟩, b⟩ := s
  rcases h with (h | ⟨o, h⟩) | h
  · exact .inl (.inl (b p _ (fun z => by rw [z, e] at h; cases h) h))
  · exact .inl (.inr ⟨o, b p _ (fun z => by rw [z, e] at h; cases h) h⟩)
  · exact .inr h
theorem bd_sql (s : Bd D H H') (h : SqL K H p xs) : SqL K H' p xs := by
  obtain ⟨⟨z, e⟩, b⟩ := s
  rcases h with (h | ⟨o, h⟩) | h
  · exact .inl (.inl (b p _ (fun z => by rw [z, e] at h; cases h) h))
  · exact .inl (.inr ⟨o, b p _ (fun z => by rw [z, e] at h; cases h) h⟩)
  · exact .inr h
theorem bd_gett (s : Bd D H H') (h : H p = some (.tup xs)) : H' p = some (.tup xs) := by
  obtain ⟨⟨z, e⟩, b⟩ := s
  exact b p _ (fun z => by rw [z, e] at h; cases h) h
theorem bd_getl (s : Bd D H H') (h : H p = some (.lst xs)) : H' p = some (.lst xs) := by
  obtain ⟨⟨z, e⟩, b⟩ := s
  exact b p _ (fun z => by rw [z, e] at h; cases h) h
theorem bd_geti (s : Bd D H H') (h : H p = some (.ins C dx fs)) : H' p = some (.ins C dx fs) := by
  obtain ⟨⟨z, e⟩, b⟩ := s
  exact b p _ (fun z => by rw [z, e] at h; cases h) h
theorem bd_getd (s : Bd D H H') (hne : p ≠ D) (h : H p = some (.dK kvs)) : H' p = some (.dK kvs) := s.2 p _ hne h
theorem bd_pot (s : Bd D H H') (h : Pot H p) : Pot H' p := by
  obtain ⟨x, y, e, r⟩ := h.ex
  exact ⟨x, y, bd_getl s e, r⟩
mutual
theorem bd_dp' (s : Bd D H H') : ∀ (d : PyData) (v : V), Dp K H v d → Dp K H' v d
  | .none, _, h => by cases h; exact .non
  | .bool b, _, h => by cases h; exact .bl b
  | .int i, _, h => by cases h; exact .int i
  | .str x, _, h => by cases h; exact .str x
  | .list ds, _, h => by
    cases h with
    | lst hs ha => exact .lst (bd_sql s hs) (bd_dpa' s ds _ ha)
  | .tuple ds, _, h => by
    cases h with
    | tup hs ha => exact .tup (bd_sqt s hs) (bd_dpa' s ds _ ha)
  | .dict _, _, h => by cases h
theorem bd_dpa' (s : Bd D H H') : ∀ (ds : List PyData) (vs : List V), DpAll K H vs ds → DpAll K H' vs ds
  | [], _, h => by cases h; exact .nil
  | d :: ds, _, h => by
    cases h with
    | cons h1 h2 => exact .cons (bd_dp' s d _ h1) (bd_dpa' s ds _ h2)
end
theorem bd_dp (s : Bd D H H') (h : Dp K H v d) : Dp K H' v d := bd_dp' s d v h
theorem bd_dpa (s : Bd D H H') (h : DpAll K H vs ds) : DpAll K H' vs ds := bd_dpa' s ds vs h
theorem bd_refl (h : H D = some (.dK kvs)) : Bd D H H := ⟨⟨kvs, h⟩, Bu.refl _ _⟩
theorem Bd.up {H0 : Hp} (h : Bd D H0 H) (s : Same H H') : Bd D H0 H' := ⟨h.1, h.2.trans (Bu.of s D)⟩
theorem up_bd {H0 : Hp} (s : Same H H') (h : Bd D H0 H) : Bd D H0 H' := h.up s
theorem bd_bd {H0 : Hp} (s : Bd D H H') (h : Bd D H0 H) : Bd D H0 H' := ⟨h.1, h.2.trans s.2⟩
/-! steps -/
theorem go_dget (q : td σ H (DgR ty σ Q)) : tDGet td ty σ H Q := q
theorem go_dgr (q : ty σ H fun y H2 => ∃ a v, x = .ref a ∧ DGet H2 a y (some v) ∧ Q v H2) : DgR ty σ Q x H := q
theorem go_dnotin (q : ty σ H (DnR td σ Q)) : tDNotIn ty td σ H Q := q
theorem go_dnr (q : td σ H fun x H2 => ∃ a o, x = .ref a ∧ DGet H2 a y o ∧ Q (.bl (!o.isSome)) H2) : DnR td σ Q y H := q
theorem go_dput (q : tv σ H (DpR td ty σ n)) : sDPut td ty tv ⟨n, rt, b, c⟩ σ H := q
theorem go_dpr (q : td σ H fun x H2 => ty σ H2 fun y H3 => ∃ a H4, x = .ref a ∧ DPut H3 a y v H4 ∧ n σ H4) : DpR td ty σ n v H := q
/-- a number or a text as key -/
theorem dg_int {i : Int} (h : H D = some (.dK kvs)) : DGet H D (.int i) (valV kvs (.inl i)) := DGet.k (k := .inl i) h
theorem dg_str {s : Str} (h : H D = some (.dK kvs)) : DGet H D (.str s) (valV kvs (.inr s)) := DGet.k (k := .inr s) h
theorem dp_int {i : Int} (h : H D = some (.dK kvs)) (hl : kvs.length < sizeLine) : DPut H D (.int i) v (upd H D (.dK (putK kvs (.inl i) v))) := DPut.k (k := .inl i) h hl
theorem dp_str {s : Str} (h : H D = some (.dK kvs)) (hl : kvs.length < sizeLine) : DPut H D (.str s) v (upd H D (.dK (putK kvs (.inr s) v))) := DPut.k (k := .inr s) h hl
theorem bd_set {o : HO} (h : H D = some (.dK kvs)) : Bd D H (upd H D o) := ⟨⟨kvs, h⟩, Bu.set⟩
end
theorem units1 {j : Nat} {A : Around} (h : Room j A) : A.units + 1 < cLine := Nat.lt_of_le_of_lt (Nat.add_le_add_left (by decide) _) h.units
end Mv
set_option Elab.async false
set_option maxRecDepth 100000
set_option maxHeartbeats 4000000
/-! Data that no pot is; dicts written out; items set; lists of ranges; comprehensions of objects with draws. -/
namespace Mv
open PySem PySem.Spec PyProof.Rows L2
/-- a list of two numbers -/
def isPt : List PyData → Bool
  | [.int _, .int _] => true
  | _ => false
mutual
/-- no list in it looks like a pot -/
def PF : PyData → Bool
  | .none | .bool _ | .int _ | .str _ => true
  | .dict _ => false
  | .list xs => !isPt xs && PFs xs
  | .tuple xs => PFs xs
def PFs : List PyData → Bool
  | [] => true
  | x :: xs => PF x && PFs xs
end
section
variable {K : PySem.W.Frag} {H H' : Hp} {p : Addr}
theorem isPt_of {ds : List PyData} {x y : Int} (h : DpAll K H [.int x, .int y] ds) : isPt ds = true := by
  cases h with
  | cons a b =>
    cases b with
    | cons b c =>
      cases c
      cases a
      cases b
      rfl
mutual
theorem pf_dp' (b : Bu p H H') (hp : Pot H p) : ∀ (d : PyData) (v : V), PF d = true → Dp K H v d → Dp K H' v d
  | .none, _, _, h => by cases h; exact .non
  | .bool b, _, _, h => by cases h; exact .bl b
  | .int i, _, _, h => by cases h; exact .int i
  | .str x, _, _, h => by cases h; exact .str x
  | .list ds, _, n, h => by
    have n' : isPt ds = false ∧ PFs ds = true := by simpa [PF] using n
    cases h with
    | lst hs ha =>
      obtain ⟨x, y, ep, _⟩ := hp.ex
      refine .lst ?_ (pf_dpa' b hp ds _ n'.2 ha)
      rcases hs with (h | ⟨o, h⟩) | h
      · exact .inl (.inl (b _ _ (fun z => by
          rw [z, ep] at h
          cases h
          have := isPt_of ha
          rw [n'.1] at this
          cases this) h))
      · exact .inl (.inr ⟨o, b _ _ (fun z => by rw [z, ep] at h; cases h) h⟩)
      · exact .inr h
  | .tuple ds, _, n, h => by
    have n' : PFs ds = true := by simpa [PF] using n
    cases h with
    | tup hs ha =>
      obtain ⟨ys, ep⟩ := hp.lst
      exact .tup (b.sqt ep hs) (pf_dpa' b hp ds _ n' ha)
  | .dict _, _, _, h => by cases h
theorem pf_dpa' (b : Bu p H H') (hp : Pot H p) : ∀ (ds : List PyData) (vs : List V), PFs ds = true → DpAll K H vs ds → DpAll K H' vs ds
  | [], _, _, h => by cases h; exact .nil
  | d :: ds, _, n, h => by
    have n' : PF d = true ∧ PFs ds = true := by simpa [PFs] using n
    cases h with
    | cons h1 h2 => exact .cons (pf_dp' b hp d _ n'.1 h1) (pf_dpa' b hp ds _ n'.2 h2)
end
theorem pf_dp {v : V} {d : PyData} (b : Bu p H H') (hp : Pot H p) (hn : PF d = true) (h : Dp K H v d) : Dp K H' v d := pf_dp' b hp d v hn h
theorem PFs.of : ∀ {ds : List PyData}, (∀ d ∈ ds, PF d = true) → PFs ds = true
  | [], _ => rfl
  | d :: ds, h => by
    have := PFs.of (ds := ds) fun x hx => h x (List.mem_cons_of_mem _ hx)
    simp [PFs, h d (List.mem_cons_self ..), this]
theorem PF.list {ds : List PyData} (hn : isPt ds = false) (h : ∀ d ∈ ds, PF d = true) : PF (.list ds) = true := by simp [PF, hn, PFs.of h]
theorem bu_getd {kvs : List (Key × V)} {a : Addr} (s : Bu p H H') (hp : Pot H p) (h : H a = some (.dK kvs)) : H' a = some (.dK kvs) := s _ _ (fun e => by obtain ⟨ys, z⟩ := hp.lst; rw [e, z] at h; cases h) h
theorem bd_bup {q : Addr} {H0 : Hp} (s : Bd q H H') (n : H0 q = none) (h : Bu p H0 H) : Bu p H0 H' := fun c o nc e => s.2 c o (fun z => by rw [z, n] at e; cases e) (h c o nc e)
theorem bd_same {q : Addr} {H0 : Hp} (s : Bd q H H') (n : H0 q = none) (h : Same H0 H) : Same H0 H' := fun c o e => s.2 c o (fun z => by rw [z, n] at e; cases e) (h c o e)
end
section
variable {K : PySem.W.Frag} {σ : L2.St} {H H' : Hp} {Q : VK} {p D : Addr} {td ty te to ti tk tv ta tb : TE} {x y v : V} {xs : List V} {kvs : List (Key × V)} {trs : List (TE × TE)} {QP : List (V × V) → Hp → Prop}
/-! dicts -/
def DgK (x : V) (Q : VK) : VK := fun y H2 => ∃ a v, x = .ref a ∧ DGet H2 a y (some v) ∧ Q v H2
theorem go_dgr2 (q : ty σ H (DgK x Q)) : DgR ty σ Q x H := q
theorem go_dgk {s : Str} (h : H D = some (.dK kvs)) (e : valV kvs (.inr s) = some v) (q : Q v H) : DgK (.ref D) Q (.str s) H := ⟨D, v, rfl, by have := dg_str (s := s) h; rw [e] at this; exact this, q⟩
def DpK (x v : V) (σ : L2.St) (n : L2.St → Hp → Prop) : VK := fun y H3 => ∃ a H4, x = .ref a ∧ DPut H3 a y v H4 ∧ n σ H4
def DpT (ty : TE) (v : V) (σ : L2.St) (n : L2.St → Hp → Prop) : VK := fun x H2 => ty σ H2 (DpK x v σ n)
theorem go_dpr2 {n : L2.St → Hp → Prop} (q : td σ H (DpT ty v σ n)) : DpR td ty σ n v H := q
theorem go_dpt {n : L2.St → Hp → Prop} (q : ty σ H (DpK x v σ n)) : DpT ty v σ n x H := q
theorem go_dpk {s : Str} {n : L2.St → Hp → Prop} (h : H D = some (.dK kvs)) (hl : kvs.length < sizeLine) (q : ∀ H', Bd D H H' → H' D = some (.dK (putK kvs (.inr s) v)) → n σ H') : DpK (.ref D) v σ n (.str s) H :=
  ⟨D, _, rfl, dp_str h hl, q _ (bd_set h) upd_same⟩
def DsK (p : Addr) (Q : VK) : List (V × V) → Hp → Prop := fun ps H2 => H2 p = some (.dK []) ∧ ∃ kvs : List (Key × V), ps = kvs.map (fun kv => (kV kv.1, kv.2)) ∧ kvs.length ≤ 15 ∧ Q (.ref p) (upd H2 p (.dK (mergeK [] kvs)))
theorem go_disp (q : ∀ p H', H p = none → Same H H' → H' p = some (.dK []) → tPairs trs σ H' (DsK p Q)) : tDisp trs σ H Q := fun p hp => q p _ hp (same_new hp) upd_same
theorem go_pnil (q : QP [] H) : tPairs [] σ H QP := q
theorem go_pcons (q : tk σ H fun x H1 => tv σ H1 fun y H2 => tPairs trs σ H2 fun ps H3 => QP ((x, y) :: ps) H3) : tPairs ((tk, tv) :: trs) σ H QP := q
theorem go_dsk2 {k1 k2 : Str} {v1 v2 : V} (h : H p = some (.dK [])) (q : ∀ H', Bd p H H' → H' p = some (.dK (mergeK [] [(.inr k1, v1), (.inr k2, v2)])) → Q (.ref p) H') : DsK p Q [(.str k1, v1), (.str k2, v2)] H :=
  ⟨h, [(.inr k1, v1), (.inr k2, v2)], rfl, by show 2 ≤ 15; decide, q _ (bd_set h) upd_same⟩
/-! x[i] = v -/
def SiR (t : TSet) (v : V) (ti : TE) (σ : L2.St) (QS : L2.St → Hp → Prop) : VK := fun o H1 => ti σ H1 fun i H2 => t o i v H2 fun H3 => QS σ H3
theorem go_gsub {t : TSet} {QS : L2.St → Hp → Prop} (q : to σ H (SiR t v ti σ QS)) : gSub to ti t v σ H QS := q
theorem go_sir {t : TSet} {QS : L2.St → Hp → Prop} (q : ti σ H fun i H2 => t x i v H2 fun H3 => QS σ H3) : SiR t v ti σ QS x H := q
theorem go_setL {k : Nat} {QH : Hp → Prop} (h : H p = some (.lst xs)) (hk : k < xs.length) (q : QH (upd H p (.lst (xs.set k v)))) : rSetL (.ref p) (.int (k : Int)) v H QH :=
  ⟨p, xs, k, k, rfl, rfl, h, by unfold ixN; simp; omega, q⟩
/-! list(range(..)) -/
def LrR (Q : VK) : Int → Int → Hp → Prop := fun a b H1 => RgOk a b ∧ ∀ q, H1 q = none → Q (.ref q) (upd H1 q (.lst (rgV a b)))
def RgE (x : V) (R : Int → Int → Hp → Prop) : VK := fun y H2 => ∃ i j, x = .int i ∧ y = .int j ∧ R i j H2
theorem go_lrg {tr : L2.St → Hp → (Int → Int → Hp → Prop) → Prop} (q : tr σ H (LrR Q)) : tLstRg tr σ H Q := q
theorem go_rgt2 {R : Int → Int → Hp → Prop} (q : ta σ H fun x H1 => tb σ H1 (RgE x R)) : tRg2 ta tb σ H R := q
theorem go_rge {i j : Int} {R : Int → Int → Hp → Prop} (q : R i j H) : RgE (.int i) R (.int j) H := ⟨i, j, rfl, rfl, q⟩
theorem go_lrr {i j : Nat} (hj : j ≤ 100000) (hi : i ≤ j) (q : ∀ l H', H l = none → Same H H' → H' l = some (.lst ((List.range (j - i)).map fun k => V.int ((i + k : Nat) : Int))) → Q (.ref l) H') : LrR Q (i : Int) (j : Int) H := by
  have e : rgV (i : Int) (j : Int) = (List.range (j - i)).map fun k => V.int ((i + k : Nat) : Int) := by
    unfold rgV
    rw [show ((j : Int) - (i : Int)).toNat = j - i by omega]
    exact List.map_congr_left fun k _ => by rw [Int.natCast_add]
  refine ⟨RgOk.of_le (by omega) (by omega) (by omega) (by omega), fun l hl => ?_⟩
  exact q l _ hl (same_new hl) (by rw [upd_same, e])
/-! x[::-1] -/
theorem pe_revL' {X : Cx} {e : Expr} {te : TE} {k : Nat} {p1 p2 p3 pos : Pos} (he : PE X e te) (eK : X.K = K := by (conv => lhs; whnf)) : PE X (.Subscript e (.Slice none none (some (.UnaryOp .USub (.Constant (.int 1) k p1) p2)) p3) pos) (tRevL K te) := by
  subst eK
  exact pe_revL he
def RvL (K : PySem.W.Frag) (Q : VK) : VK := fun x H1 => ∃ a xs, x = .ref a ∧ SqL K H1 a xs ∧ ∀ p, H1 p = none → Q (.ref p) (upd H1 p (.lst xs.reverse))
theorem go_revl (q : te σ H (RvL K Q)) : tRevL K te σ H Q := q
theorem go_rvl {a : Addr} (h : SqL K H a xs) (q : ∀ p H', H p = none → Same H H' → H' p = some (.lst xs.reverse) → Q (.ref p) H') : RvL K Q (.ref a) H := ⟨a, xs, rfl, h, fun p hp => q p _ hp (same_new hp) upd_same⟩
/-! comprehensions of objects, with draws -/
theorem lcObjB {J : It} {k : Nat} {G : Hp → Prop} {Y : Nat → Hp → V → Hp → Prop} {g : TG} {vs : List Nat} (w : Walk J k G Y) (Rp : Nat → V → Hp → Prop) (hp : Pot H p) (hz : k ≤ 100000) (hm : ∀ i y H1 H2, Pot H1 p → Bu p H1 H2 → Rp i y H1 → Rp i y H2) (hu : ∀ i y H1 D zs o, H1 D = some (.lst zs) → Rp i y H1 → Rp i y (upd H1 D o)) (hG : ∀ H', Bu p H H' → G H')
    (hs : ∀ (i : Nat) (x : V) (H1 H2 : Hp) (Q' : VK), i < k → Pot H1 p → Bu p H H1 → Y i H1 x H2 → (∀ y H4, Pot H4 p → Bu p H1 H4 → Rp i y H4 → Q' y H4) → g x (wipe σ vs) H2 fun σ2 H3 => wipe σ2 vs = wipe σ vs ∧ te σ2 H3 Q')
    (hd : ∀ D H' ys, H D = none → Pot H' p → Bu p H H' → H' D = some (.lst ys) → ys.length = k → (∀ (i : Nat) y, ys[i]? = some y → Rp i y H') → Q (.ref D) H') (hg : ∀ x σ' H' (P Q : L2.St → Hp → Prop), (∀ σ2 H2, P σ2 H2 → Q σ2 H2) → g x σ' H' P → g x σ' H' Q) : LcR g tYes te vs σ Q J H := by
  intro D hD
  have hne : D ≠ p := hp.ne hD
  refine lc_it w (fun i H' => Bu p H H' ∧ Pot H' p ∧ ∃ ys, H' D = some (.lst ys) ∧ ys.length = i ∧ ∀ (i : Nat) y, ys[i]? = some y → Rp i y H') ⟨Bu.new hD, hp.upd hne, [], upd_same, rfl, fun i y h => by simp at h⟩ (fun i H' _ h => hG H' h.1) ?_ ?_
  · rintro i x H1 H2 hi ⟨b1, p1, ys, ed, hlen, ha⟩ hy
    refine hg x _ H2 _ _ (fun σ2 H2 h => ⟨h.1, h.2⟩) (hs i x H1 H2 (fun y H4 => ∃ acc, H4 D = some (.lst acc) ∧ acc.length < sizeLine ∧ Bu p H (upd H4 D (.lst (acc ++ [y]))) ∧ Pot (upd H4 D (.lst (acc ++ [y]))) p ∧ ∃ ys, upd H4 D (.lst (acc ++ [y])) D = some (.lst ys) ∧ ys.length = i + 1 ∧ ∀ (i : Nat) z, ys[i]? = some z → Rp i z (upd H4 D (.lst (acc ++ [y])))) hi p1 b1 hy fun y H4 p4 b4 ry => ?_)
    have e4 := b4 _ _ hne ed
    refine ⟨ys, e4, ?_, ?_, p4.upd hne, ys ++ [y], upd_same, by simp [hlen], fun j z hz' => ?_⟩
    · rw [hlen]; unfold sizeLine; omega
    · intro b o nb e
      rw [upd_ne (ne_of_none e hD)]
      exact (b1.trans b4) b o nb e
    · rcases Nat.lt_trichotomy j ys.length with c | c | c
      · rw [List.getElem?_append_left c] at hz'
        exact hu _ _ _ _ _ _ e4 (hm _ _ _ _ p1 b4 (ha j z hz'))
      · subst c
        rw [List.getElem?_append_right (Nat.le_refl _), Nat.sub_self] at hz'
        obtain rfl := Option.some.inj hz'
        rw [hlen]
        exact hu _ _ _ _ _ _ e4 ry
      · rw [List.getElem?_eq_none (by simp; omega)] at hz'
        cases hz'
  · rintro H1 ⟨b1, p1, ys, ed, hlen, ha⟩
    exact hd D H1 ys hD p1 b1 ed hlen ha
end
end Mv
set_option Elab.async false
set_option maxRecDepth 100000
set_option maxHeartbeats 4000000
/-! Class methods; cls(..). -/
namespace Mv
open PySem PySem.Spec PyProof.Rows L2
/-- C.m(..), m a class method: n values by place (the class among them), keywords ks -/
structure CmK (P : Program) (w : World) (K : PySem.W.Frag) (mg : Str → Option Value) (base : Heap) (k : Nat) (C : Addr) (m : Str) (sp : Sp) (n : Nat) (ks : List Str) (gV : List V → List V → List V) : Prop where
  ex : ∃ (f p : Addr) (mc : Value) (fd : FuncData) (ps : List Str) (g : List Value → List Value → List Value), ClX.CRead K C mc ∧ ClX.CMet K C mc m p f ∧ FnOk P w K mg base CX0 k f fd ps sp ∧ KBn K fd ps n ks g gV
def tCmA (C : Addr) (n : Nat) (sp : Sp) (gV : List V → List V → List V) (to : TE) (t : TA) : TE := fun σ H Q => to σ H fun x H1 => x = .ref C ∧ t σ H1 fun vs H2 => vs.length + 1 = n ∧ sp (gV (.ref C :: vs) []) H2 Q E0
def tCmK (C : Addr) (m : Nat) (sp : Sp) (gV : List V → List V → List V) (to : TE) (tk : TA) : TE := fun σ H Q => to σ H fun x H1 => x = .ref C ∧ tk σ H1 fun zs H2 => zs.length = m ∧ sp (gV [.ref C] zs) H2 Q E0
section
variable {X : Cx} {k j n : Nat} {C f : Addr} {sp : Sp} {fd : FuncData} {ps ks : List Str} {g : List Value → List Value → List Value} {gV : List V → List V → List V} {o e : Expr} {es : List Expr} {kws : List Keyword} {m x : Str} {p pos apos : Pos} {ta to : TE} {t tk : TA} {pl : Sem Bool}
theorem run_cmk {pins : List (Addr × Obj)} {σ : L2.St} {H : Hp} {s : Shared} {Q : VK} {us ws : List Value} {vs zs : List V} {q : Addr} (F : FnOk X.prog X.w X.K X.mg X.base CX0 k f fd ps sp) (hr : Room k X.A) (hb : KBn X.K fd ps n ks g gV)
    (I : Inv X ((q, PySem.W.methodObj (.ref f) (.ref C)) :: pins) σ H s) (r : Vals vs us) (rz : Vals zs ws) (l1 : vs.length + 1 = n) (l2 : zs.length = ks.length) (h : sp (gV (.ref C :: vs) zs) H Q E0) : wpAny (model X.prog X.w) X.A (call (.ref q) us (ks.zip ws)) (EP X pins σ Q) X.xe s := by
  have z : wpAny (model X.prog X.w) X.A (call (.ref q) us (ks.zip ws)) (EP X ((q, PySem.W.methodObj (.ref f) (.ref C)) :: pins) σ Q) X.xe s := by
    refine wpAny_call (PySem.W.method_call (ClX.pin_at I) (codeAny_mono (F.run X.A X.stack s H ⟨.ref C :: us, ks.zip ws⟩ (g (.ref C :: us) ws) (gV (.ref C :: vs) zs) Q E0 hr I.env0 (hb.to s (.ref C :: us) ws I.kIn (by rw [List.length_cons, ← r.length]; exact l1) (rz.length.symm.trans l2)) (hb.rel (.cons rfl r) rz) h) fun r s' hq => ?_))
    cases r with
    | error e => exact False.elim hq
    | ok fl =>
      cases fl with
      | ret u => exact I.after hq
      | next => exact False.elim hq
      | brk => exact False.elim hq
      | cont => exact False.elim hq
  exact thn z fun _ _ y => ClX.unpinE y
theorem pe_cmA (c : CmK X.prog X.w X.K X.mg X.base k C m sp n [] gV) (hr : Room j X.A) (hk : k ≤ j) (he : PE X o to) (ha : PA X (e :: es) t)
    (hst : starEach (e :: es) X.env = (false, eval e X.env) :: starEach es X.env := by rfl) (hpl : (backTo pos (starEach es X.env)).any (·.1) = false := by rfl)
    (ht : eval (.Call (.Attribute o m apos) (e :: es) [] pos) X.env = (do
      let ov ← eval o X.env
      standAt apos.atName
      let (f, first) ← holding [ov] (getMethod ov m pl)
      callWith pos f first (backTo pos (starEach (e :: es) X.env)) (backToKw pos (keywordEach [] X.env))) := by rfl) :
    PE X (.Call (.Attribute o m apos) (e :: es) [] pos) (tCmA C n sp gV to t) := by
  obtain ⟨f, p, mc, fd, ps, g, cr, cm, F, b⟩ := c.ex
  refine ⟨fun pins s σ H Q I h => ?_⟩
  refine PySem.W.methodCall_KW (pl := pl) (thn (he.run pins s σ H _ I h) fun u s1 ⟨x, H1, I1, rx, ex, q⟩ => ?_) ht
  subst ex
  obtain rfl : u = Value.ref C := rx
  refine ClX.getmethcm_ok I1 cr cm fun s2 I2 => ?_
  refine ClX.callwith_cm I2 (ClX.base_none I1 (Nat.le_refl _)) cm.fi (thn (ha.run pos _ s2 σ H1 _ I2 q) fun us s3 ⟨vs, H2, I3, rv, q2⟩ => ⟨⟨ClX.pin_at I3, I3.kIn⟩, ?_⟩) hst hpl
  exact run_cmk (ks := []) (ws := []) (zs := []) F (hr.mono hk) b I3 rv .nil q2.1 rfl q2.2
theorem pe_cmA0 (c : CmK X.prog X.w X.K X.mg X.base k C m sp n [] gV) (hr : Room j X.A) (hk : k ≤ j) (he : PE X o to)
    (ht : eval (.Call (.Attribute o m apos) [] [] pos) X.env = (do
      let ov ← eval o X.env
      standAt apos.atName
      let (f, first) ← holding [ov] (getMethod ov m pl)
      callWith pos f first (backTo pos (starEach [] X.env)) (backToKw pos (keywordEach [] X.env))) := by rfl) :
    PE X (.Call (.Attribute o m apos) [] [] pos) (tCmA C n sp gV to tNil) := by
  obtain ⟨f, p, mc, fd, ps, g, cr, cm, F, b⟩ := c.ex
  refine ⟨fun pins s σ H Q I h => ?_⟩
  refine PySem.W.methodCall_KW (pl := pl) (thn (he.run pins s σ H _ I h) fun u s1 ⟨x, H1, I1, rx, ex, q⟩ => ?_) ht
  subst ex
  obtain rfl : u = Value.ref C := rx
  refine ClX.getmethcm_ok I1 cr cm fun s2 I2 => ?_
  refine PySem.W.callWith_M0 ⟨ClX.pin_at I2, I2.kIn⟩ cm.fi ?_
  exact run_cmk (us := []) (vs := []) (ks := []) (ws := []) (zs := []) F (hr.mono hk) b I2 .nil .nil q.1 rfl q.2
theorem pe_cmKw (c : CmK X.prog X.w X.K X.mg X.base k C m sp 1 ks gV) (hr : Room j X.A) (hk : k ≤ j) (he : PE X o to) (hkw : PK X kws tk)
    (hall : (backToKw pos (keywordEach kws X.env)).all (·.1.isSome) = true := by rfl) (hks : (backToKw pos (keywordEach kws X.env)).filterMap (·.1) = ks := by rfl)
    (hpl : ((backTo pos (starEach [] X.env)).any (·.1) || (backToKw pos (keywordEach kws X.env)).any (·.1.isNone)) = false := by rfl)
    (ht : eval (.Call (.Attribute o m apos) [] kws pos) X.env = (do
      let ov ← eval o X.env
      standAt apos.atName
      let (f, first) ← holding [ov] (getMethod ov m pl)
      callWith pos f first (backTo pos (starEach [] X.env)) (backToKw pos (keywordEach kws X.env))) := by rfl) :
    PE X (.Call (.Attribute o m apos) [] kws pos) (tCmK C ks.length sp gV to tk) := by
  obtain ⟨f, p, mc, fd, ps, g, cr, cm, F, b⟩ := c.ex
  refine ⟨fun pins s σ H Q I h => ?_⟩
  refine PySem.W.methodCall_KW (pl := pl) (thn (he.run pins s σ H _ I h) fun u s1 ⟨x, H1, I1, rx, ex, q⟩ => ?_) ht
  subst ex
  obtain rfl : u = Value.ref C := rx
  refine ClX.getmethcm_ok I1 cr cm fun s2 I2 => ?_
  refine PySem.W.callWith_of (P := fun h => PySem.W.MethP X.K s1.heap.objs.size f (.ref C) h) hpl (PySem.W.keeps_M cm.fi) (PyProof.Rows.evalArgs_kw2_nil hall ?_)
  refine thn (hkw.run pos _ s2 σ H1 _ I2 q) fun ws s3 ⟨zs, H2, I3, rz, l2, q2⟩ => ⟨⟨ClX.pin_at I3, I3.kIn⟩, ?_⟩
  rw [hks]
  exact run_cmk (us := []) (vs := []) F (hr.mono hk) b I3 .nil rz rfl l2 q2
/-- cls(..), cls a local name -/
def tMakeL (i : Nat) (C : Addr) (sp : Sp) (E : XK) (t : TA) : TE := fun σ H Q => σ[i]? = some (some (.ref C)) ∧ StX.tMakeR C sp E t σ H Q
theorem pe_marL {i : Nat} {y : Str} (c : MaR X.prog X.w X.K X.mg X.base k y C sp) (hr : Room j X.A) (hk : k + 1 ≤ j) (ha : PA X (e :: es) t) (hN : X.N[i]? = some x := by rfl) (hv : Vis X.env.scope x := by first | exact Or.inl rfl | exact Or.inr (Or.inl rfl) | exact Or.inr (Or.inr rfl))
    (hdb : (x == ("__debug__" : Str)) = false := by decide) (hcd : (x == ("__classdict__" : Str)) = false := by decide)
    (he : starEach (e :: es) X.env = (false, eval e X.env) :: starEach es X.env := by rfl) (hpl : (backTo pos (starEach es X.env)).any (·.1) = false := by rfl) : PE X (.Call (.Name x p) (e :: es) [] pos) (tMakeL i C sp E0 t) := by
  obtain ⟨f, M, F, hm⟩ := c.ex
  refine ⟨fun pins s σ H Q I h => ?_⟩
  obtain ⟨hs, ht⟩ := h
  refine wpAny_Call_Name_kw (thn ((pe_var (pos := p) hN hv hdb hcd).run pins s σ H (fun v H1 => v = .ref C ∧ H1 = H) I ⟨.ref C, hs, rfl, rfl⟩) fun u s1 ⟨v, H1, I1, r1, q1⟩ => ?_)
  obtain ⟨rfl, rfl⟩ := q1
  cases r1
  refine PySem.W.callWith_K (h₀ := X.base) I.ok.mod.kin M.kp (thn (ha.run pos pins s1 σ _ _ I1 ht) fun us s2 ⟨vs, H2, I2, r, q⟩ => ⟨I2.kIn, ?_⟩) he hpl
  exact StX.run_makeR M F (hr.mono hk) pass0 I2 r q
/-- cls.f, a constant of the class -/
def tCv (C : Addr) (v : V) (ta : TE) : TE := fun σ H Q => ta σ H fun x H1 => x = .ref C ∧ Q v H1
theorem pe_cvl {y : Str} {v : V} (c : CCon X.K C y v) (he : PE X e ta) (hb : attributeBase e y X.env (eval e X.env) = eval e X.env := by rfl) : PE X (.Attribute e y pos) (tCv C v ta) := by
  obtain ⟨mc, u, r, k⟩ := c.ex
  refine ⟨fun pins s σ H Q I h => ?_⟩
  refine attr_of hb (thn (he.run pins s σ H _ I h) fun u s1 ⟨x, H1, I1, rx, ex, q⟩ => ?_)
  subst ex
  obtain rfl : u = Value.ref C := rx
  exact ClX.getcval_ok I1 r k fun s2 I2 => ⟨v, H1, I2, k.rel, q⟩
end
section
variable {σ : L2.St} {H : Hp} {Q : VK} {C : Addr} {sp : Sp} {E : XK} {v : V} {n m : Nat} {gV : List V → List V → List V} {to ta : TE} {t tk : TA} {vs zs us : List V}
def CvR (C : Addr) (v : V) (Q : VK) : VK := fun x H1 => x = .ref C ∧ Q v H1
theorem go_cv (q : ta σ H (CvR C v Q)) : tCv C v ta σ H Q := q
theorem go_cvr (q : Q v H) : CvR C v Q (.ref C) H := ⟨rfl, q⟩
def MkR1 (C : Addr) (sp : Sp) (E : XK) (Q : VK) : List V → Hp → Prop := fun vs H1 => ∀ x dx, H1 x = none → H1 dx = none → dx ≠ x → sp (.ref x :: vs) (upd (upd H1 dx (.own x)) x (.ins C dx [])) (fun v H2 => v = .non ∧ Q (.ref x) H2) E
theorem go_mkr1 (q : t σ H (MkR1 C sp E Q)) : StX.tMakeR C sp E t σ H Q := q
theorem go_mkL {i : Nat} (h : σ[i]? = some (some (.ref C))) (q : t σ H (MkR1 C sp E Q)) : tMakeL i C sp E t σ H Q := ⟨h, q⟩
def CmR (C : Addr) (n : Nat) (sp : Sp) (gV : List V → List V → List V) (t : TA) (σ : L2.St) (Q : VK) : VK := fun x H1 => x = .ref C ∧ t σ H1 fun vs H2 => vs.length + 1 = n ∧ sp (gV (.ref C :: vs) []) H2 Q E0
def CkR (C : Addr) (m : Nat) (sp : Sp) (gV : List V → List V → List V) (tk : TA) (σ : L2.St) (Q : VK) : VK := fun x H1 => x = .ref C ∧ tk σ H1 fun zs H2 => zs.length = m ∧ sp (gV [.ref C] zs) H2 Q E0
def CmV (C : Addr) (n : Nat) (sp : Sp) (gV : List V → List V → List V) (Q : VK) : List V → Hp → Prop := fun vs H2 => vs.length + 1 = n ∧ sp (gV (.ref C :: vs) []) H2 Q E0
def CkV (C : Addr) (m : Nat) (sp : Sp) (gV : List V → List V → List V) (Q : VK) : List V → Hp → Prop := fun zs H2 => zs.length = m ∧ sp (gV [.ref C] zs) H2 Q E0
theorem go_cma (q : to σ H (CmR C n sp gV t σ Q)) : tCmA C n sp gV to t σ H Q := q
theorem go_cmk (q : to σ H (CkR C m sp gV tk σ Q)) : tCmK C m sp gV to tk σ H Q := q
theorem go_cmr (q : t σ H (CmV C n sp gV Q)) : CmR C n sp gV t σ Q (.ref C) H := ⟨rfl, q⟩
theorem go_ckr (q : tk σ H (CkV C m sp gV Q)) : CkR C m sp gV tk σ Q (.ref C) H := ⟨rfl, q⟩
theorem go_cmv (hl : vs.length + 1 = n) (e : gV (.ref C :: vs) [] = us) (q : sp us H Q E0) : CmV C n sp gV Q vs H := ⟨hl, by rw [e]; exact q⟩
theorem go_ckv (hl : zs.length = m) (e : gV [.ref C] zs = us) (q : sp us H Q E0) : CkV C m sp gV Q zs H := ⟨hl, by rw [e]; exact q⟩
end
end Mv
set_option Elab.async false
set_option maxRecDepth 100000
set_option maxHeartbeats 4000000
/-! Comprehensions of new lists; what is shown. -/
namespace Mv
open PySem PySem.Spec PyProof.Rows L2
/-- new lists since H, none of them twice, none at D; of data without lists -/
structure NewLs (K : PySem.W.Frag) (H H' : Hp) (D : Addr) (ys : List V) (es : List (List PyData)) : Prop where
  ex : ∃ qs : List Addr, ys = qs.map V.ref ∧ qs.Nodup ∧ D ∉ qs ∧ qs.length = es.length ∧ ∀ (i : Nat) q e, qs[i]? = some q → es[i]? = some e → H q = none ∧ NLs e = true ∧ ∃ zs, H' q = some (.lst zs) ∧ DpAll K H' zs e
section
variable {K : PySem.W.Frag} {σ : L2.St} {H H' : Hp} {Q : VK} {vs : List Nat} {te : TE} {g : TG} {a D : Addr} {ys : List V} {es : List (List PyData)}
theorem NewLs.dp (h : NewLs K H H' D ys es) : DpAll K H' ys (es.map PyData.list) := by
  obtain ⟨qs, rfl, h1, h2, hl, hq⟩ := h.ex
  clear h h1 h2
  induction qs generalizing es with
  | nil =>
    cases es with
    | nil => exact .nil
    | cons _ _ => cases hl
  | cons q qs ih =>
    cases es with
    | nil => cases hl
    | cons e es =>
      obtain ⟨_, _, zs, ez, hz⟩ := hq 0 q e rfl rfl
      exact .cons (.lst (SqL.of ez) hz) (ih (Nat.succ.inj hl) fun i q' e' h1 h2 => hq (i + 1) q' e' (by simpa using h1) (by simpa using h2))
theorem lcNews {J : It} {k : Nat} {G : Hp → Prop} {Y : Nat → Hp → V → Hp → Prop} (w : Walk J k G Y) (f : Nat → List PyData) (hz : k ≤ 100000) (hl : ∀ i, i < k → NLs (f i) = true) (hG : ∀ H', Same H H' → G H')
    (hs : ∀ (i : Nat) (x : V) (H1 H2 : Hp) (Q' : VK), i < k → Same H H1 → Y i H1 x H2 → (∀ q zs H4, H1 q = none → Same H1 H4 → H4 q = some (.lst zs) → DpAll K H4 zs (f i) → Q' (.ref q) H4) → g x (wipe σ vs) H2 fun σ2 H3 => wipe σ2 vs = wipe σ vs ∧ te σ2 H3 Q')
    (hd : ∀ D H' ys, H D = none → Same H H' → H' D = some (.lst ys) → NewLs K H H' D ys ((List.range k).map f) → Q (.ref D) H') (hg : ∀ x σ' H' (P Q : L2.St → Hp → Prop), (∀ σ2 H2, P σ2 H2 → Q σ2 H2) → g x σ' H' P → g x σ' H' Q) : LcR g tYes te vs σ Q J H := by
  intro D hD
  refine lc_it w (fun i H' => i ≤ k ∧ Same H H' ∧ ∃ qs : List Addr, H' D = some (.lst (qs.map V.ref)) ∧ qs.length = i ∧ qs.Nodup ∧ D ∉ qs ∧ ∀ (j : Nat) q, qs[j]? = some q → H q = none ∧ ∃ zs, H' q = some (.lst zs) ∧ DpAll K H' zs (f j)) ⟨Nat.zero_le _, same_new hD, [], upd_same, rfl, List.nodup_nil, List.not_mem_nil, fun j q h => by simp at h⟩ (fun i H' _ h => hG H' h.2.1) ?_ ?_
  · rintro i x H1 H2 hi ⟨_, s, qs, ed, hlen, nd, nD, ha⟩ hy
    refine hg x _ H2 _ _ (fun σ2 H2 h => ⟨h.1, h.2⟩) (hs i x H1 H2 (fun y H4 => ∃ acc, H4 D = some (.lst acc) ∧ acc.length < sizeLine ∧ i + 1 ≤ k ∧ Same H (upd H4 D (.lst (acc ++ [y]))) ∧ ∃ qs : List Addr, upd H4 D (.lst (acc ++ [y])) D = some (.lst (qs.map V.ref)) ∧ qs.length = i + 1 ∧ qs.Nodup ∧ D ∉ qs ∧ ∀ (j : Nat) q, qs[j]? = some q → H q = none ∧ ∃ zs, upd H4 D (.lst (acc ++ [y])) q = some (.lst zs) ∧ DpAll K (upd H4 D (.lst (acc ++ [y]))) zs (f j)) hi s hy fun q zs H4 nq s4 eq hq => ?_)
    have e4 := s4 _ _ ed
    have hqD : q ≠ D := fun z => by rw [z, ed] at nq; cases nq
    have hqs : q ∉ qs := fun z => by
      obtain ⟨j, hj⟩ := List.getElem?_of_mem z
      obtain ⟨_, zs', e', _⟩ := ha j q hj
      rw [e'] at nq
      cases nq
    refine ⟨qs.map V.ref, e4, ?_, hi, same_over (s.trans s4) hD, qs ++ [q], by rw [upd_same, List.map_append]; rfl, by simp [hlen], ?_, ?_, fun j q' hj => ?_⟩
    · rw [List.length_map, hlen]; unfold sizeLine; omega
    · rw [List.nodup_append]
      exact ⟨nd, by simp, fun x hx y hy => by
        obtain rfl : y = q := by simpa using hy
        exact fun z => hqs (z ▸ hx)⟩
    · rw [List.mem_append]
      rintro (h | h)
      · exact nD h
      · have : D = q := by simpa using h
        exact hqD this.symm
    · have bs : Bu D H4 (upd H4 D (.lst (qs.map V.ref ++ [V.ref q]))) := Bu.set
      rcases Nat.lt_trichotomy j qs.length with c | c | c
      · rw [List.getElem?_append_left c] at hj
        obtain ⟨n', zs', e', d'⟩ := ha j q' hj
        refine ⟨n', zs', bs _ _ (fun z => nD (z ▸ List.mem_of_getElem? hj)) (s4 _ _ e'), (d'.up s4).bu (hl j (by omega)) bs e4⟩
      · subst c
        rw [List.getElem?_append_right (Nat.le_refl _), Nat.sub_self] at hj
        obtain rfl := Option.some.inj hj
        refine ⟨s.free nq, zs, bs _ _ hqD eq, ?_⟩
        rw [hlen]
        exact hq.bu (hl i hi) bs e4
      · rw [List.getElem?_eq_none (by simp; omega)] at hj
        cases hj
  · rintro H1 ⟨_, s, qs, ed, hlen, nd, nD, ha⟩
    refine hd D H1 _ hD s ed ⟨qs, rfl, nd, nD, by simp [hlen], fun i q e h1 h2 => ?_⟩
    have hi : i < k := by
      rw [← hlen]
      exact (List.getElem?_eq_some_iff.mp h1).1
    rw [List.getElem?_map, List.getElem?_range hi] at h2
    obtain rfl := Option.some.inj h2
    obtain ⟨n', zs', e', d'⟩ := ha i q h1
    exact ⟨n', hl i hi, zs', e', d'⟩
/-! what is shown -/
/-- data that repr can show -/
def Shw (d : PyData) : Prop := d.showable = true ∧ d.hasDict = false ∧ d.depth ≤ 60 ∧ d.shown.length ≤ sizeLine
theorem go_repr {v : V} {d : PyData} (h : Dp K H v d) (hs : Shw d) (hr : ∃ b, v = .ref b) (q : Q (.str d.shown) H) : rReprD K [v] H Q := by
  obtain ⟨b, rfl⟩ := hr
  exact go_reprD h hs q
end
/-- an own slot whose def needs that no repr runs -/
structure Op2G (P : Program) (w : World) (K : PySem.W.Frag) (mg : Str → Option Value) (base : Heap) (k : Nat) (C : Addr) (m : Str) (ps : List Str) (sp : Sp) : Prop where
  ex : ∃ (g : Addr) (fd : FuncData), FnG P w K mg base k g fd ps sp ∧ Binds K fd ps [] ∧ PySem.W.findIn K (.ref C) m = some (some (.ref g)) ∧ PySem.W.isFn K (.ref g) = true
section
variable {X : Cx} {k j : Nat} {C : Addr} {sp : Sp} {ps : List Str} {K : PySem.W.Frag}
theorem run_atg {A : Around} {pins : List (Addr × Obj)} {σ : L2.St} {H : Hp} {s : Shared} {Q : VK} {us : List Value} {vs : List V} {E' : Value → Shared → Prop} {g : Addr} {fd : FuncData} (F : FnG X.prog X.w X.K X.mg X.base k g fd ps sp) (hr : Room k A) (ga : GA A) (hf : A.frames = some X.stack) (hb : Binds X.K fd ps [])
    (I : Inv X pins σ H s) (r : Vals vs us) (h : sp vs H Q E0) : wpAny (model X.prog X.w) A (call (.ref g) us) (EP X pins σ Q) E' s := by
  have hl : (us ++ []).length = ps.length := by rw [List.append_nil, ← r.length]; exact F.len _ _ _ _ h
  have b := hb s us I.kIn hl
  rw [List.append_nil] at b
  have e0 := I.env0
  refine wpAny_call (codeAny_mono (F.run A X.stack s H ⟨us, []⟩ us vs Q E0 hr ga ⟨hf, e0.mod, e0.bs, e0.bsz, e0.funs, e0.frf, e0.hok, e0.bare⟩ b r h) fun r s' hq => ?_)
  cases r with
  | error e => exact False.elim hq
  | ok fl =>
    cases fl with
    | ret u => exact I.after hq
    | next => exact False.elim hq
    | brk => exact False.elim hq
    | cont => exact False.elim hq
theorem call_reprG (c : Op2G X.prog X.w X.K X.mg X.base k C "__repr__" ps sp) (hr : Room (k + 1) X.A) (ga : GA X.A) : CallR X (.builtin "repr") (rReprO C sp) := by
  obtain ⟨g, fd, F, hb, hs, hf⟩ := c.ex
  intro pins s σ H xs us Q I r h
  obtain ⟨a, dx, fs, rfl, ea, q⟩ := h
  obtain ⟨u, rfl, ru⟩ := vals1 r
  obtain rfl : u = Value.ref a := ru
  obtain ⟨mA, O, _⟩ := ins_get I.hok ea
  obtain ⟨od, J, _⟩ := O.look
  obtain ⟨m, hF⟩ := I.fr
  refine PySem.W.repr_K (by have := hr.units; show X.A.units + 1 < cLine; omega) hF I.ok.mod.kin J hs hf ?_
  refine wpAny_mono (run_atg (vs := [.ref a]) F hr.in1 (ga_in1 ga) I.ok.frames hb I (.cons rfl .nil) q) (fun w s' z => ?_) fun _ _ x => x
  obtain ⟨z', H', I', rz, y, rfl, qz⟩ := z
  obtain ⟨tk, rfl⟩ := rz
  exact ⟨.str y, H', I', ⟨_, rfl⟩, qz⟩
theorem call_reprG' {P : Program} {w : World} {mg : Str → Option Value} {base : Heap} (c : Op2G P w K mg base k C "__repr__" ps sp) (hr : Room j X.A) (ga : GA X.A) (hk : k + 1 ≤ j) (e : Over X P w K mg base := by exact ⟨rfl, rfl, rfl, rfl, rfl⟩) : CallR X (.builtin "repr") (rReprO C sp) := by
  obtain ⟨rfl, rfl, rfl, rfl, rfl⟩ := e
  exact call_reprG c (hr.mono hk) ga
/-- sep.join(xs) -/
def rJn (K : PySem.W.Frag) : V → List V → Hp → VK → Prop := fun x xs H Q => ∃ a p, ∃ ys : List Str, x = .str a ∧ xs = [.ref p] ∧ (SqL K H p (ys.map V.str) ∨ SqT K H p (ys.map V.str)) ∧ (ys.map (·.length)).sum + ys.length * a.length ≤ 16777216 ∧ Q (.str (Txt.join a ys)) H
theorem pe_join' {o e : Expr} {to te : TE} {apos pos : Pos} (ho : PE X o to) (he : PE X e te) (eK : X.K = K := by (conv => lhs; whnf)) (hs : starEach [e] X.env = [(false, eval e X.env)] := by rfl) (hbase : attributeBase o "join" X.env (eval o X.env) = eval o X.env := by rfl) (hline : (apos.endLine == pos.line) = true := by rfl) : PE X (.Call (.Attribute o "join" apos) [e] [] pos) (tM1 (rJn K) to te) := by
  subst eK
  exact pe_join ho he hs hbase hline
end
end Mv
set_option Elab.async false
set_option maxRecDepth 100000
set_option maxHeartbeats 4000000
namespace T
open PySem L2 Mv
abbrev s_pgrowth : Stmt := inClass (top 32) 7
theorem sc_pgrowth : FnScope ["self"] ["self"] (defScope s_pgrowth) := ⟨rfl, rfl, rfl, by decide +kernel, rfl, by decide +kernel, by decide +kernel⟩
abbrev s_prounds : Stmt := inClass (top 32) 8
theorem sc_prounds : FnScope ["self", "cuts"] ["self"] (defScope s_prounds) := ⟨rfl, rfl, rfl, by decide +kernel, rfl, by decide +kernel, by decide +kernel⟩
abbrev s_pphase : Stmt := inClass (top 32) 9
theorem sc_pphase : FnScope ["self", "f"] ["self", "f"] (defScope s_pphase) := ⟨rfl, rfl, rfl, by decide +kernel, rfl, by decide +kernel, by decide +kernel⟩
section
variable {P : Program} {w : World} {K : PySem.W.Frag} {mg : Str → Option Value} {base : Heap} {C AX : Addr}
def sp_pgrowth (K : PySem.W.Frag) (C : Addr) : Sp := fun vs H Q _ => ∃ (v : V) (rs : List (List Pm.Cut)), vs = [v] ∧ PlanAt K C H v rs ∧ Q (.int (Pm.cnt rs 0 rs.length : Nat)) H
theorem c_pgrowth {K : PySem.W.Frag} {C : Addr} {v : V} {rs : List (List Pm.Cut)} {H : Hp} {Q : VK} {E : XK} (h0 : PlanAt K C H v rs) (q : Q (.int (Pm.cnt rs 0 rs.length : Nat)) H) : sp_pgrowth K C [v] H Q E := ⟨_, _, rfl, h0, q⟩
def sp_prounds (K : PySem.W.Frag) (C : Addr) : Sp := fun vs H Q _ => ∃ (v : V) (rs : List (List Pm.Cut)), vs = [v] ∧ PlanAt K C H v rs ∧ ∀ l ys H', H l = none → Same H H' → H' l = some (.lst ys) → NewLs K H H' l ys (rs.map fun r => r.map pCut) → Q (.ref l) H'
theorem c_prounds {K : PySem.W.Frag} {C : Addr} {v : V} {rs : List (List Pm.Cut)} {H : Hp} {Q : VK} {E : XK} (h0 : PlanAt K C H v rs) (q : ∀ l ys H', H l = none → Same H H' → H' l = some (.lst ys) → NewLs K H H' l ys (rs.map fun r => r.map pCut) → Q (.ref l) H') : sp_prounds K C [v] H Q E := ⟨_, _, rfl, h0, q⟩
def sp_pphase (K : PySem.W.Frag) (C : Addr) : Sp := fun vs H Q _ => ∃ (v : V) (rs : List (List Pm.Cut)) (f : Nat), vs = [v, .int f] ∧ PlanAt K C H v rs ∧ f ≤ 1000 ∧ Q (.int (f % rs.length : Nat)) H
theorem c_pphase {K : PySem.W.Frag} {C : Addr} {v : V} {rs : List (List Pm.Cut)} {f : Nat} {H : Hp} {Q : VK} {E : XK} (h0 : PlanAt K C H v rs) (h1 : f ≤ 1000) (q : Q (.int (f % rs.length : Nat)) H) : sp_pphase K C [v, .int f] H Q E := ⟨_, _, _, rfl, h0, h1, q⟩
theorem nl_cuts (r : List Pm.Cut) : NLs (r.map pCut) = true := NLs.of fun d hd => by
  obtain ⟨c, _, rfl⟩ := List.mem_map.mp hd
  rfl
theorem go_lenRds {H : Hp} {v : V} {rs : List (List Pm.Cut)} {Q : VK} (h : Dp K H v (pRds rs)) (q : Q (.int (rs.length : Int)) H) : rLenSeq K [v] H Q := by
  obtain ⟨a, xs, rfl, hs, ha⟩ := h.lstE
  exact ⟨a, xs, rfl, .inl hs, by rw [ha.len, List.length_map]; exact q⟩
theorem range_rds (rs : List (List Pm.Cut)) : ((List.range rs.length).map fun i => (rs.getD i []).map pCut) = rs.map fun r => r.map pCut := by
  refine List.ext_getElem? fun i => ?_
  rw [List.getElem?_map, List.getElem?_map]
  rcases Nat.lt_or_ge i rs.length with c | c
  · rw [List.getElem?_range c, List.getElem?_eq_getElem c]
    simp [List.getD_eq_getElem?_getD, List.getElem?_eq_getElem c]
  · rw [List.getElem?_eq_none (by simpa using c), List.getElem?_eq_none c]
    rfl
local macro_rules | `(tactic| tb_rel) => `(tactic| repeat (first
  | with_reducible assumption
  | with_reducible exact Dp.int _
  | with_reducible exact Dp.str _
  | with_reducible exact Dp.bl _
  | with_reducible exact Dp.non
  | (with_reducible apply SqT.of; with_reducible assumption)
  | (with_reducible apply SqL.of; with_reducible assumption)
  | (with_reducible apply up_dp; with_reducible assumption)
  | (with_reducible apply up_sqt; with_reducible assumption)
  | (with_reducible apply up_sql; with_reducible assumption)
  | (with_reducible apply up_get; with_reducible assumption)
  | (with_reducible apply up_pot; with_reducible assumption)
  | with_reducible exact Same.refl _
  | with_reducible exact Bu.refl _ _
  | (with_reducible apply up_same; with_reducible assumption)
  | (with_reducible apply up_bu; with_reducible assumption)
  | (with_reducible apply bu_bu; with_reducible assumption)
  | (with_reducible apply free_of; with_reducible assumption)
  | (with_reducible apply mi_fr; with_reducible assumption; (focus (tb_rel; done)))
  | (with_reducible apply mi_dp; with_reducible assumption)
  | (with_reducible apply mi_sqt; with_reducible assumption)
  | (with_reducible apply mi_sql; with_reducible assumption)
  | (with_reducible apply mi_gett; with_reducible assumption)
  | (with_reducible apply mi_getl; with_reducible assumption)
  | (with_reducible apply mi_pot; with_reducible assumption)
  | (with_reducible apply mi_refl; with_reducible assumption; (focus (with_unfolding_all exact rfl)))
  | (with_reducible apply up_mi; with_reducible assumption)
  | (with_reducible apply mi_mi; with_reducible assumption)
  | (with_reducible apply mi_bu; with_reducible assumption)
  | (with_reducible apply up_plan; with_reducible assumption)
  | (with_reducible apply bu_plan; with_reducible assumption; (focus (tb_rel; done)))
  | (with_reducible apply mi_plan; with_reducible assumption; (focus (lcg_src; done)))
  | (with_reducible apply bu_gett; with_reducible assumption; (focus (tb_rel; done)))
  | (with_reducible apply bu_geti; with_reducible assumption; (focus (tb_rel; done)))
  | (with_reducible apply bu_get; with_reducible assumption; (focus (tlg_ne; done)))
  | (with_reducible apply bu_sqt; with_reducible assumption; (focus (tb_rel; done)))
  | (with_reducible apply bu_sql; with_reducible assumption; (focus (tlg_ne; done)))
  | (with_reducible apply bu_dp; with_reducible assumption; (focus (tb_rel; done)); (focus (lcg_src; done)))
  | fail "up"))
local macro_rules | `(tactic| tlg_ne) => `(tactic| first
  | with_reducible assumption
  | (with_reducible apply pot_ne; with_reducible assumption; (focus (tb_rel; done)))
  | fail "ne")
local macro_rules | `(tactic| lcg_src) => `(tactic| first
  | with_reducible assumption
  | with_unfolding_all exact rfl
  | with_unfolding_all decide
  | with_unfolding_all exact Nat.ne_of_beq_eq_false rfl
  | (apply_assumption; done)
  | omega
  | (simp; done)
  | (simp; omega)
  | fail "sd")
local macro_rules | `(tactic| lcg_sub) => `(tactic| first
  | (unfold sizeLine; omega)
  | (simp only [List.length_cons, List.length_nil, List.length_append, List.length_map, List.length_replicate, List.length_take, List.length_drop]; unfold sizeLine; omega)
  | (simp; unfold sizeLine; omega)
  | fail "sz")
local macro_rules | `(tactic| nest_cls) => `(tactic| first
  | (tb_rel; done)
  | (with_reducible apply nmI; (focus (tb_rel; done)))
  | (with_reducible apply d_tup; (focus (tb_rel; done)); (focus (lsm_bools; done)))
  | (with_reducible apply d_lst; (focus (tb_rel; done)); (focus (lsm_bools; done)))
  | fail "dp")
local macro_rules | `(tactic| lsm_bools) => `(tactic| repeat (first
  | with_reducible exact DpAll.nil
  | with_reducible assumption
  | (with_reducible apply DpAll.cons; (focus (nest_cls; done)))
  | fail "dpa"))
local macro_rules | `(tactic| none_booked) => `(tactic| first | with_unfolding_all exact rfl | (with_reducible apply atI_nat; with_reducible assumption) | fail "ix")
local macro_rules | `(tactic| walk_at "go") => `(tactic| repeat (first
  | (focus (with_reducible refine go_var (v := ?_) ?_ ?_; rotate_left; (focus (with_unfolding_all exact rfl))))
  | with_reducible refine go_seq ?_
  | with_reducible refine go_cN ?_
  | with_reducible refine go_c ?_
  | with_reducible refine go_op ?_
  | with_reducible refine go_nil ?_
  | with_reducible refine go_cons ?_
  | with_reducible refine go_cb ?_
  | with_reducible refine go_call0 ?_
  | with_reducible refine go_asg ?_
  | (focus (with_reducible refine go_gname (σ' := ?_) ?_ ?_; rotate_left; (focus (simp only [List.set_cons_succ, List.set_cons_zero]; exact rfl))))
  | with_reducible refine go_par ?_
  | (focus (with_reducible refine go_par2 (σ' := ?_) ?_ ?_; rotate_left; (focus (simp only [List.set_cons_succ, List.set_cons_zero]; exact rfl))))
  | with_reducible refine go_ifs ?_
  | with_reducible refine go_test ?_
  | with_reducible refine go_tb ?_
  | with_reducible refine go_asb ?_
  | with_reducible refine go_asi ?_
  | with_reducible refine go_ret ?_
  | with_reducible refine go_retn ?_
  | with_reducible refine go_drop ?_
  | with_reducible refine go_next ?_
  | with_reducible refine go_and ?_
  | with_reducible refine go_or ?_
  | with_reducible refine go_not ?_
  | with_reducible refine go_andv ?_
  | with_reducible refine go_orv ?_
  | with_reducible refine go_notv ?_
  | with_reducible refine go_ife ?_
  | with_reducible refine go_chain ?_
  | with_reducible refine go_if1 ?_
  | with_reducible refine go_if0 ?_
  | with_reducible refine go_ifn1 ?_
  | with_reducible refine go_ifn0 ?_
  | (with_reducible apply go_ift; (focus (first | with_reducible rfl | with_reducible assumption | omega)))
  | (with_reducible apply go_ifnt; (focus (first | with_reducible rfl | with_reducible assumption | omega)))
  | (with_reducible apply go_iff; (focus (first | with_reducible assumption | omega)))
  | (with_reducible apply go_ifnf; (focus (first | with_reducible assumption | omega)))
  | with_reducible refine go_un ?_
  | with_reducible refine go_tup ?_
  | with_reducible refine go_lst ?_
  | (with_reducible apply go_newt; (focus (lcg_sub; done)); intros)
  | (with_reducible apply go_newl; (focus (lcg_sub; done)); intros)
  | with_reducible refine go_meth ?_
  | with_reducible refine go_for ?_
  | with_reducible refine go_lc ?_
  | with_reducible refine go_irng1 ?_
  | with_reducible refine go_irng2 ?_
  | with_reducible refine go_ilist ?_
  | with_reducible refine go_itup ?_
  | with_reducible refine go_izip ?_
  | with_reducible refine go_ienum ?_
  | (with_reducible apply go_rg1; (focus (lcg_src; done)))
  | (with_reducible apply go_rg2; (focus (lcg_src; done)); (focus (lcg_src; done)))
  | (with_reducible apply go_lsr; (focus (tb_rel; done)))
  | (with_reducible apply go_tpr; (focus (tb_rel; done)))
  | (with_reducible apply go_zpr; (focus (tb_rel; done)); (focus (tb_rel; done)))
  | (with_reducible apply go_zprT; (focus (tb_rel; done)); (focus (tb_rel; done)))
  | (with_reducible apply go_enrL; (focus (tb_rel; done)))
  | (with_reducible apply go_enrT; (focus (tb_rel; done)))
  | with_reducible refine go_prop ?_
  | with_reducible refine go_knr0 ?_
  | (with_reducible apply go_knr; (focus (with_unfolding_all exact rfl; done)); (focus (simp only [kSw2, kRev3, kId, List.nil_append, List.cons_append]; exact rfl)))
  | with_reducible refine go_mkn ?_
  | (with_reducible apply go_mkr; (focus (tb_rel; done)); (focus (with_unfolding_all exact rfl; done)))
  | with_reducible refine go_fld ?_
  | (with_reducible apply go_flr; (focus (tb_rel; done)); (focus (with_reducible assumption; done)); (focus (with_reducible assumption; done)); (focus (with_unfolding_all exact rfl; done)))
  | (with_reducible apply go_prr; (focus (tb_rel; done)))
  | (with_reducible apply go_mer; (focus (tb_rel; done)); (focus (with_unfolding_all exact rfl; done)))
  | with_reducible refine go_sfld ?_
  | (with_reducible apply go_sfr; (focus (tb_rel; done)); (focus (with_reducible assumption; done)); (focus (with_reducible assumption; done)); (focus (with_unfolding_all exact Nat.le_of_ble_eq_true rfl; done)); (focus (with_unfolding_all exact rfl; done)); intros)
  | with_reducible refine go_revt ?_
  | with_reducible refine go_make0 ?_
  | (focus (with_reducible refine go_aug (x := ?_) ?_ ?_; rotate_left; (focus (with_unfolding_all exact rfl))))
  | (focus (with_reducible refine go_augk (σ' := ?_) ?_ ?_; rotate_left; (focus (simp only [List.set_cons_succ, List.set_cons_zero]; exact rfl))))
  | with_reducible refine go_min2 ?_
  | with_reducible refine go_int1 ?_
  | with_reducible refine go_max2 ?_
  | with_reducible refine go_intB ?_
  | with_reducible refine go_absN ?_
  | with_reducible refine go_isN ?_
  | with_reducible refine go_notN ?_
  | (with_reducible apply go_rvt; (focus (tb_rel; done)); (focus (simp only [List.reverse_cons, List.reverse_nil, List.nil_append, List.cons_append]; exact rfl)); intros)
  | (with_reducible apply go_reprNm; (focus (tb_rel; done)); (focus (with_reducible assumption; done)))
  | (with_reducible apply go_reprPr; (focus (nest_cls; done)); (focus (lcg_src; done)); (focus (lcg_src; done)))
  | with_reducible refine go_sl ?_
  | with_reducible refine go_part ?_
  | with_reducible refine go_nopart ?_
  | (with_reducible apply go_gtup; (focus (tb_rel; done)); (focus (with_unfolding_all exact rfl; done)))
  | (with_reducible apply go_gunl; (focus (tb_rel; done)); (focus (with_unfolding_all exact rfl; done)))
  | with_reducible refine go_gcons ?_
  | with_reducible refine go_gnil ?_
  | with_reducible refine go_addN ?_
  | with_reducible refine go_ltN ?_
  | with_reducible refine go_leN ?_
  | with_reducible refine go_gtN ?_
  | with_reducible refine go_geN ?_
  | (with_reducible apply go_subN; (focus (omega; done)))
  | with_reducible refine go_rI0 ?_
  | (with_reducible apply go_mulN; (focus (omega; done)))
  | (with_reducible apply go_modN; (focus (omega; done)))
  | (with_reducible apply go_divN; (focus (omega; done)))
  | (with_reducible apply go_powN; (focus (with_unfolding_all decide; done)))
  | with_reducible refine go_rU ?_
  | with_reducible refine go_eqN ?_
  | with_reducible refine go_neN ?_
  | with_reducible refine go_isB ?_
  | with_reducible refine go_notB ?_
  | with_reducible refine go_eqS ?_
  | with_reducible refine go_neS ?_
  | with_reducible refine go_eqB ?_
  | with_reducible refine go_eqI ?_
  | with_reducible refine go_neI ?_
  | (with_reducible apply go_ixt; (focus (tb_rel; done)); (focus (none_booked; done)))
  | (with_reducible apply go_ixl; (focus (tb_rel; done)); (focus (none_booked; done)))
  | (with_reducible apply go_lent; (focus (tb_rel; done)))
  | (with_reducible apply go_lenNm; (focus (tb_rel; done)))
  | (with_reducible apply go_isiNm; (focus (tb_rel; done)))
  | (with_reducible apply go_lenl; (focus (tb_rel; done)))
  | (with_reducible apply go_catA; (focus (tb_rel; done)); (focus (tb_rel; done)); (focus (lcg_sub; done)); intros)
  | (with_reducible apply go_slaT; (focus (tb_rel; done)); intros)
  | (with_reducible apply go_slaD; (focus (tb_rel; done)); intros)
  | (with_reducible apply go_rep; (focus (tb_rel; done)); (focus (lcg_src; done)); intros)
  | (with_reducible apply go_tupofl; (focus (tb_rel; done)); intros)
  | (with_reducible apply go_sllT; (focus (tb_rel; done)); intros)
  | (with_reducible apply go_sllD; (focus (tb_rel; done)); intros)
  | (with_reducible apply go_cat; (focus (tb_rel; done)); (focus (tb_rel; done)); (focus (lcg_sub; done)); intros)
  | (with_reducible apply go_eqP; with_reducible assumption; (focus (tb_rel; done)); (focus (tb_rel; done)))
  | (with_reducible apply go_neP; with_reducible assumption; (focus (tb_rel; done)); (focus (tb_rel; done)))
  | (with_reducible apply go_mep; (focus (tb_rel; done)); (focus decide); (focus decide); (focus decide))
  | (with_reducible apply c_pgrowth; (focus (tb_rel; done)); intros)
  | (with_reducible apply c_pphase; (focus (tb_rel; done)); (focus (lcg_src; done)); intros)
  | (with_reducible apply c_prounds; (focus (tb_rel; done)); intros)
  | (with_reducible apply c_wantfine; (focus (lcg_src; done)); intros)
  | fail "go"))
theorem ok_pgrowth {f : Addr} {fd : FuncData} (F : Df K "growth" "Plan.growth" s_pgrowth [] f fd) (G : PlG K mg C AX) : FnOk P w K mg base CX0 1 f fd ["self"] (sp_pgrowth K C) := by
  refine dfOk F sc_pgrowth (fun vs H Q E h => ?_) (fun cdv A outer s H vs Q E hr h => ?_)
  · obtain ⟨v, rs, rfl, _⟩ := h
    rfl
  · obtain ⟨v, rs, rfl, hp, q⟩ := h
    obtain ⟨a, dx, R, Pt, rfl, ea, hR, hP⟩ := hp.ex
    have cl := G.I.cl
    have nG := G.nG
    refine ⟨_, (pss_one (ps_ret (pe_fld' (pv 0) rfl))), ?_⟩
    refine go_start (σ := [some _]) rfl ?_
    walk_at "go"
    exact q
theorem ok_prounds {f : Addr} {fd : FuncData} (F : Df K "rounds" "Plan.rounds" s_prounds [] f fd) (B : Blt mg) (G : PlG K mg C AX) : FnOk P w K mg base CX0 1 f fd ["self"] (sp_prounds K C) := by
  refine dfOk F sc_prounds (fun vs H Q E h => ?_) (fun cdv A outer s H vs Q E hr h => ?_)
  · obtain ⟨v, rs, rfl, _⟩ := h
    rfl
  · obtain ⟨v, rs, rfl, hp, q⟩ := h
    obtain ⟨a, dx, R, Pt, rfl, ea, hR, hP⟩ := hp.ex
    obtain ⟨b, xs, rfl, hs, ha⟩ := hR.lstE
    have hxl : xs.length = rs.length := by rw [ha.len, List.length_map]
    have l3 := hp.ok.2.1
    have cl := G.I.cl
    have nR := G.nR
    refine ⟨_, (pss_one (ps_ret (pe_lc (own := [("cuts", 1)]) (by rfl) sc_prounds.nd (pi_list' (pe_fld' (pv 0) rfl)) (blkOk_by (own := [("cuts", 1)]) (N := ["self", "cuts"]) (sc := defScope s_prounds) (by decide +kernel)) (fun _ _ _ _ _ => (pg_name (i := 1) sc_prounds.nd rfl (Or.inl rfl))) (fun _ _ _ _ _ => pts_nil) (fun _ _ _ _ _ => (pe_callTy call_list_of' (by rfl) B.list bt_list (pa_cons (pv 1) pa_nil)))))), ?_⟩
    refine go_start (σ := [some _, none]) rfl ?_
    walk_at "go"
    refine lcNews (K := K) (walk_list (xs := xs)) (fun i => (rs.getD i []).map pCut) (by omega) (fun i _ => nl_cuts _) (fun H' s => s.seq hs) (fun i x H1 H2 Q' hi s1 hy hq => ?_) (fun D H1 ys nD s1 eD hn => ?_) gName_mono
    · obtain ⟨rfl, hx⟩ := hy
      refine ⟨rfl, ?_⟩
      obtain ⟨d, hd1, hd2⟩ := (ha.up s1).get hx
      rw [List.getElem?_map] at hd1
      obtain ⟨r, hr1, rfl⟩ := Option.map_eq_some_iff.mp hd1
      obtain ⟨c, zs, rfl, hzs, hza⟩ := hd2.lstE
      walk_at "go"
      refine go_lstof (.inl hzs) ?_
      intro l H3 nl s3 el
      refine hq l zs H3 nl s3 el ?_
      rw [List.getD_eq_getElem?_getD, hr1]
      exact hza.up s3
    · rw [hxl, range_rds] at hn
      exact q D ys H1 nD s1 eD hn
theorem ok_pphase {f : Addr} {fd : FuncData} (F : Df K "phase" "Plan.phase" s_pphase [] f fd) (B : Blt mg) (G : PlG K mg C AX) (cWf : Ca P w K mg base 3 "want_fineness" sp_wantfine []) : FnOk P w K mg base CX0 4 f fd ["self", "f"] (sp_pphase K C) := by
  refine dfOk F sc_pphase (fun vs H Q E h => ?_) (fun cdv A outer s H vs Q E hr h => ?_)
  · obtain ⟨v, rs, f, rfl, _⟩ := h
    rfl
  · obtain ⟨v, rs, f, rfl, hp, hf, q⟩ := h
    obtain ⟨a, dx, R, Pt, rfl, ea, hR, hP⟩ := hp.ex
    have l1 := hp.ok.1
    have cl := G.I.cl
    have nR := G.nR
    refine ⟨_, (pss_cons (ps_expr (pe_ca cWf hr (by decide) (by rfl) (pa_cons (pv 1) pa_nil)))
  (pss_one (ps_ret (pe_op op_mod (pv 1) (pe_callB call_len_seq' (by rfl) B.len bt_len (pa_cons (pe_fld' (pv 0) rfl) pa_nil)))))), ?_⟩
    refine go_start (σ := [some _, some _]) rfl ?_
    walk_at "go"
    refine go_lenRds hR ?_
    walk_at "go"
    exact q
end
end T
set_option Elab.async false
set_option maxRecDepth 100000
set_option maxHeartbeats 4000000
namespace T
open PySem L2 Mv
abbrev s_psquares : Stmt := inClass (top 32) 4
theorem sc_psquares : FnScope ["cls", "parts"] ["cls", "parts"] (defScope s_psquares) := ⟨rfl, rfl, rfl, by decide +kernel, rfl, by decide +kernel, by decide +kernel⟩
abbrev s_pcodes : Stmt := inClass (top 32) 5
theorem sc_pcodes : FnScope ["cls", "one", "k", "other"] ["cls"] (defScope s_pcodes) := ⟨rfl, rfl, rfl, by decide +kernel, rfl, by decide +kernel, by decide +kernel⟩
section
variable {P : Program} {w : World} {K : PySem.W.Frag} {mg : Str → Option Value} {base : Heap} {C AX : Addr}
def codesR : List (List Pm.Cut) := [[(0, 2), (1, 2), (0, 2), (1, 2), (0, 2)], [(1, 2), (0, 2), (1, 2), (0, 2), (1, 2)]]
def sp_psquares (K : PySem.W.Frag) (C : Addr) : Sp := fun vs H Q _ => ∃ (n : Nat), vs = [.ref C, .int n] ∧ 2 ≤ n ∧ n ≤ 4 ∧ ∀ u H', Same H H' → PlanAt K C H' u [[(0, n), (1, n)]] → Q u H'
theorem c_psquares {K : PySem.W.Frag} {C : Addr} {n : Nat} {H : Hp} {Q : VK} {E : XK} (h0 : 2 ≤ n) (h1 : n ≤ 4) (q : ∀ u H', Same H H' → PlanAt K C H' u [[(0, n), (1, n)]] → Q u H') : sp_psquares K C [.ref C, .int n] H Q E := ⟨_, rfl, h0, h1, q⟩
def sp_pcodes (K : PySem.W.Frag) (C : Addr) : Sp := fun vs H Q _ => ∃ (c : V), vs = [c] ∧ c = .ref C ∧ ∀ u H', Same H H' → PlanAt K C H' u codesR → Q u H'
theorem c_pcodes {K : PySem.W.Frag} {C : Addr} {c : V} {H : Hp} {Q : VK} {E : XK} (h0 : c = .ref C) (q : ∀ u H', Same H H' → PlanAt K C H' u codesR → Q u H') : sp_pcodes K C [c] H Q E := ⟨_, rfl, h0, q⟩
theorem sq_ok : ∀ n, 2 ≤ n → n ≤ 4 → Pm.RdsOk [[(0, n), (1, n)]] := by
  intro n h1 h2
  rcases (by omega : n = 2 ∨ n = 3 ∨ n = 4) with rfl | rfl | rfl <;> decide
theorem tE {H : Hp} {a : Addr} {m : Nat} (h : H a = some (.tup [.str "east", .int (m : Int)])) : Dp K H (.ref a) (pCut (0, m)) := .tup (SqT.of h) (.cons (.str _) (.cons (.int _) .nil))
theorem tN {H : Hp} {a : Addr} {m : Nat} (h : H a = some (.tup [.str "north", .int (m : Int)])) : Dp K H (.ref a) (pCut (1, m)) := .tup (SqT.of h) (.cons (.str _) (.cons (.int _) .nil))
theorem ax_at2 {a : Nat} (h : a < 2) : atI [V.str "east", V.str "north"] (a : Int) = some (.str (axn a)) := by
  rcases (by omega : a = 0 ∨ a = 1) with rfl | rfl <;> rfl
local macro_rules | `(tactic| tb_rel) => `(tactic| repeat (first
  | with_reducible assumption
  | with_reducible exact Dp.int _
  | with_reducible exact Dp.str _
  | with_reducible exact Dp.bl _
  | with_reducible exact Dp.non
  | (with_reducible apply SqT.of; with_reducible assumption)
  | (with_reducible apply SqL.of; with_reducible assumption)
  | (with_reducible apply up_dp; with_reducible assumption)
  | (with_reducible apply up_sqt; with_reducible assumption)
  | (with_reducible apply up_sql; with_reducible assumption)
  | (with_reducible apply up_get; with_reducible assumption)
  | (with_reducible apply up_pot; with_reducible assumption)
  | with_reducible exact Same.refl _
  | with_reducible exact Bu.refl _ _
  | (with_reducible apply up_same; with_reducible assumption)
  | (with_reducible apply up_bu; with_reducible assumption)
  | (with_reducible apply bu_bu; with_reducible assumption)
  | (with_reducible apply free_of; with_reducible assumption)
  | (with_reducible apply mi_fr; with_reducible assumption; (focus (tb_rel; done)))
  | (with_reducible apply mi_dp; with_reducible assumption)
  | (with_reducible apply mi_sqt; with_reducible assumption)
  | (with_reducible apply mi_sql; with_reducible assumption)
  | (with_reducible apply mi_gett; with_reducible assumption)
  | (with_reducible apply mi_getl; with_reducible assumption)
  | (with_reducible apply mi_pot; with_reducible assumption)
  | (with_reducible apply mi_refl; with_reducible assumption; (focus (with_unfolding_all exact rfl)))
  | (with_reducible apply up_mi; with_reducible assumption)
  | (with_reducible apply mi_mi; with_reducible assumption)
  | (with_reducible apply mi_bu; with_reducible assumption)
  | (with_reducible apply up_plan; with_reducible assumption)
  | (with_reducible apply bu_plan; with_reducible assumption; (focus (tb_rel; done)))
  | (with_reducible apply mi_plan; with_reducible assumption; (focus (lcg_src; done)))
  | (with_reducible apply bu_gett; with_reducible assumption; (focus (tb_rel; done)))
  | (with_reducible apply bu_geti; with_reducible assumption; (focus (tb_rel; done)))
  | (with_reducible apply bu_get; with_reducible assumption; (focus (tlg_ne; done)))
  | (with_reducible apply bu_sqt; with_reducible assumption; (focus (tb_rel; done)))
  | (with_reducible apply bu_sql; with_reducible assumption; (focus (tlg_ne; done)))
  | (with_reducible apply bu_dp; with_reducible assumption; (focus (tb_rel; done)); (focus (lcg_src; done)))
  | fail "up"))
local macro_rules | `(tactic| tlg_ne) => `(tactic| first
  | with_reducible assumption
  | (with_reducible apply pot_ne; with_reducible assumption; (focus (tb_rel; done)))
  | fail "ne")
local macro_rules | `(tactic| lcg_src) => `(tactic| first
  | with_reducible assumption
  | with_unfolding_all exact rfl
  | with_unfolding_all decide
  | with_unfolding_all exact Nat.ne_of_beq_eq_false rfl
  | (apply_assumption; done)
  | omega
  | (simp; done)
  | (simp; omega)
  | fail "sd")
local macro_rules | `(tactic| lcg_sub) => `(tactic| first
  | (unfold sizeLine; omega)
  | (simp only [List.length_cons, List.length_nil, List.length_append, List.length_map, List.length_replicate, List.length_take, List.length_drop]; unfold sizeLine; omega)
  | (simp; unfold sizeLine; omega)
  | fail "sz")
local macro_rules | `(tactic| nest_cls) => `(tactic| first
  | (tb_rel; done)
  | (with_reducible apply nmI; (focus (tb_rel; done)))
  | (with_reducible apply d_tup; (focus (tb_rel; done)); (focus (lsm_bools; done)))
  | (with_reducible apply d_lst; (focus (tb_rel; done)); (focus (lsm_bools; done)))
  | fail "dp")
local macro_rules | `(tactic| lsm_bools) => `(tactic| repeat (first
  | with_reducible exact DpAll.nil
  | with_reducible assumption
  | (with_reducible apply DpAll.cons; (focus (nest_cls; done)))
  | fail "dpa"))
local macro_rules | `(tactic| none_booked) => `(tactic| first | with_unfolding_all exact rfl | (with_reducible apply atI_nat; with_reducible assumption) | fail "ix")
local macro_rules | `(tactic| walk_at "go") => `(tactic| repeat (first
  | (focus (with_reducible refine go_var (v := ?_) ?_ ?_; rotate_left; (focus (with_unfolding_all exact rfl))))
  | with_reducible refine go_seq ?_
  | with_reducible refine go_cN ?_
  | with_reducible refine go_c ?_
  | with_reducible refine go_op ?_
  | with_reducible refine go_nil ?_
  | with_reducible refine go_cons ?_
  | with_reducible refine go_cb ?_
  | with_reducible refine go_call0 ?_
  | with_reducible refine go_asg ?_
  | (focus (with_reducible refine go_gname (σ' := ?_) ?_ ?_; rotate_left; (focus (simp only [List.set_cons_succ, List.set_cons_zero]; exact rfl))))
  | with_reducible refine go_par ?_
  | (focus (with_reducible refine go_par2 (σ' := ?_) ?_ ?_; rotate_left; (focus (simp only [List.set_cons_succ, List.set_cons_zero]; exact rfl))))
  | with_reducible refine go_ifs ?_
  | with_reducible refine go_test ?_
  | with_reducible refine go_tb ?_
  | with_reducible refine go_asb ?_
  | with_reducible refine go_asi ?_
  | with_reducible refine go_ret ?_
  | with_reducible refine go_retn ?_
  | with_reducible refine go_drop ?_
  | with_reducible refine go_next ?_
  | with_reducible refine go_and ?_
  | with_reducible refine go_or ?_
  | with_reducible refine go_not ?_
  | with_reducible refine go_andv ?_
  | with_reducible refine go_orv ?_
  | with_reducible refine go_notv ?_
  | with_reducible refine go_ife ?_
  | with_reducible refine go_chain ?_
  | with_reducible refine go_if1 ?_
  | with_reducible refine go_if0 ?_
  | with_reducible refine go_ifn1 ?_
  | with_reducible refine go_ifn0 ?_
  | (with_reducible apply go_ift; (focus (first | with_reducible rfl | with_reducible assumption | omega)))
  | (with_reducible apply go_ifnt; (focus (first | with_reducible rfl | with_reducible assumption | omega)))
  | (with_reducible apply go_iff; (focus (first | with_reducible assumption | omega)))
  | (with_reducible apply go_ifnf; (focus (first | with_reducible assumption | omega)))
  | with_reducible refine go_un ?_
  | with_reducible refine go_tup ?_
  | with_reducible refine go_lst ?_
  | (with_reducible apply go_newt; (focus (lcg_sub; done)); intros)
  | (with_reducible apply go_newl; (focus (lcg_sub; done)); intros)
  | with_reducible refine go_meth ?_
  | with_reducible refine go_for ?_
  | with_reducible refine go_lc ?_
  | with_reducible refine go_irng1 ?_
  | with_reducible refine go_irng2 ?_
  | with_reducible refine go_ilist ?_
  | with_reducible refine go_itup ?_
  | with_reducible refine go_izip ?_
  | with_reducible refine go_ienum ?_
  | (with_reducible apply go_rg1; (focus (lcg_src; done)))
  | (with_reducible apply go_rg2; (focus (lcg_src; done)); (focus (lcg_src; done)))
  | (with_reducible apply go_lsr; (focus (tb_rel; done)))
  | (with_reducible apply go_tpr; (focus (tb_rel; done)))
  | (with_reducible apply go_zpr; (focus (tb_rel; done)); (focus (tb_rel; done)))
  | (with_reducible apply go_zprT; (focus (tb_rel; done)); (focus (tb_rel; done)))
  | (with_reducible apply go_enrL; (focus (tb_rel; done)))
  | (with_reducible apply go_enrT; (focus (tb_rel; done)))
  | with_reducible refine go_prop ?_
  | with_reducible refine go_knr0 ?_
  | (with_reducible apply go_knr; (focus (with_unfolding_all exact rfl; done)); (focus (simp only [kSw2, kRev3, kId, List.nil_append, List.cons_append]; exact rfl)))
  | with_reducible refine go_mkn ?_
  | (with_reducible apply go_mkr; (focus (tb_rel; done)); (focus (with_unfolding_all exact rfl; done)))
  | with_reducible refine go_fld ?_
  | (with_reducible apply go_flr; (focus (tb_rel; done)); (focus (with_reducible assumption; done)); (focus (with_reducible assumption; done)); (focus (with_unfolding_all exact rfl; done)))
  | (with_reducible apply go_prr; (focus (tb_rel; done)))
  | (with_reducible apply go_mer; (focus (tb_rel; done)); (focus (with_unfolding_all exact rfl; done)))
  | with_reducible refine go_sfld ?_
  | (with_reducible apply go_sfr; (focus (tb_rel; done)); (focus (with_reducible assumption; done)); (focus (with_reducible assumption; done)); (focus (with_unfolding_all exact Nat.le_of_ble_eq_true rfl; done)); (focus (with_unfolding_all exact rfl; done)); intros)
  | with_reducible refine go_revt ?_
  | with_reducible refine go_make0 ?_
  | (focus (with_reducible refine go_aug (x := ?_) ?_ ?_; rotate_left; (focus (with_unfolding_all exact rfl))))
  | (focus (with_reducible refine go_augk (σ' := ?_) ?_ ?_; rotate_left; (focus (simp only [List.set_cons_succ, List.set_cons_zero]; exact rfl))))
  | with_reducible refine go_min2 ?_
  | with_reducible refine go_int1 ?_
  | with_reducible refine go_max2 ?_
  | with_reducible refine go_intB ?_
  | with_reducible refine go_absN ?_
  | with_reducible refine go_isN ?_
  | with_reducible refine go_notN ?_
  | (with_reducible apply go_rvt; (focus (tb_rel; done)); (focus (simp only [List.reverse_cons, List.reverse_nil, List.nil_append, List.cons_append]; exact rfl)); intros)
  | (with_reducible apply go_reprNm; (focus (tb_rel; done)); (focus (with_reducible assumption; done)))
  | (with_reducible apply go_reprPr; (focus (nest_cls; done)); (focus (lcg_src; done)); (focus (lcg_src; done)))
  | with_reducible refine go_sl ?_
  | with_reducible refine go_part ?_
  | with_reducible refine go_nopart ?_
  | (with_reducible apply go_gtup; (focus (tb_rel; done)); (focus (with_unfolding_all exact rfl; done)))
  | (with_reducible apply go_gunl; (focus (tb_rel; done)); (focus (with_unfolding_all exact rfl; done)))
  | with_reducible refine go_gcons ?_
  | with_reducible refine go_gnil ?_
  | with_reducible refine go_addN ?_
  | with_reducible refine go_ltN ?_
  | with_reducible refine go_leN ?_
  | with_reducible refine go_gtN ?_
  | with_reducible refine go_geN ?_
  | (with_reducible apply go_subN; (focus (omega; done)))
  | with_reducible refine go_rI0 ?_
  | (with_reducible apply go_mulN; (focus (omega; done)))
  | (with_reducible apply go_modN; (focus (omega; done)))
  | (with_reducible apply go_divN; (focus (omega; done)))
  | (with_reducible apply go_powN; (focus (with_unfolding_all decide; done)))
  | with_reducible refine go_rU ?_
  | with_reducible refine go_eqN ?_
  | with_reducible refine go_neN ?_
  | with_reducible refine go_isB ?_
  | with_reducible refine go_notB ?_
  | with_reducible refine go_eqS ?_
  | with_reducible refine go_neS ?_
  | with_reducible refine go_eqB ?_
  | with_reducible refine go_eqI ?_
  | with_reducible refine go_neI ?_
  | (with_reducible apply go_ixt; (focus (tb_rel; done)); (focus (none_booked; done)))
  | (with_reducible apply go_ixl; (focus (tb_rel; done)); (focus (none_booked; done)))
  | (with_reducible apply go_lent; (focus (tb_rel; done)))
  | (with_reducible apply go_lenNm; (focus (tb_rel; done)))
  | (with_reducible apply go_isiNm; (focus (tb_rel; done)))
  | (with_reducible apply go_lenl; (focus (tb_rel; done)))
  | (with_reducible apply go_catA; (focus (tb_rel; done)); (focus (tb_rel; done)); (focus (lcg_sub; done)); intros)
  | (with_reducible apply go_slaT; (focus (tb_rel; done)); intros)
  | (with_reducible apply go_slaD; (focus (tb_rel; done)); intros)
  | (with_reducible apply go_rep; (focus (tb_rel; done)); (focus (lcg_src; done)); intros)
  | (with_reducible apply go_tupofl; (focus (tb_rel; done)); intros)
  | (with_reducible apply go_sllT; (focus (tb_rel; done)); intros)
  | (with_reducible apply go_sllD; (focus (tb_rel; done)); intros)
  | (with_reducible apply go_cat; (focus (tb_rel; done)); (focus (tb_rel; done)); (focus (lcg_sub; done)); intros)
  | (with_reducible apply go_eqP; with_reducible assumption; (focus (tb_rel; done)); (focus (tb_rel; done)))
  | (with_reducible apply go_neP; with_reducible assumption; (focus (tb_rel; done)); (focus (tb_rel; done)))
  | (with_reducible apply go_mep; (focus (tb_rel; done)); (focus decide); (focus decide); (focus decide))
  | (with_reducible apply c_pcodes; (focus (lcg_src; done)); intros)
  | (with_reducible apply c_psquares; (focus (lcg_src; done)); (focus (lcg_src; done)); intros)
  | with_reducible refine go_cv ?_
  | with_reducible refine go_cvr ?_
  | with_reducible refine go_mkr1 ?_
  | with_reducible refine go_cma ?_
  | with_reducible refine go_cmk ?_
  | with_reducible refine go_cmr ?_
  | with_reducible refine go_ckr ?_
  | (with_reducible apply go_mkL; (focus (with_unfolding_all exact rfl)))
  | (with_reducible apply go_cmv; (focus (with_unfolding_all exact rfl)); (focus (simp only [gApp, kId, List.nil_append, List.cons_append, List.append_nil]; exact rfl)))
  | (with_reducible apply go_ckv; (focus (with_unfolding_all exact rfl)); (focus (simp only [gApp, kId, List.nil_append, List.cons_append, List.append_nil]; exact rfl)))
  | fail "go"))
theorem ok_psquares {f : Addr} {fd : FuncData} (F : Df K "squares" "Plan.squares" s_psquares [] f fd) (G : PlG K mg C AX) (cP : Ca P w K mg base 2 "are_parts" sp_areparts []) (cPl : MaR P w K mg base 6 "Plan" C (spMk K C)) : FnOk P w K mg base CX0 8 f fd ["cls", "parts"] (sp_psquares K C) := by
  refine dfOk F sc_psquares (fun vs H Q E h => ?_) (fun cdv A outer s H vs Q E hr h => ?_)
  · obtain ⟨n, rfl, _⟩ := h
    rfl
  · obtain ⟨n, rfl, n2, n4, q⟩ := h
    refine ⟨_, (pss_cons (ps_if (pt_not (pt_val (pe_ca cP hr (by decide) (by rfl) (pa_cons (pv 1) pa_nil))))
  pss_never
  pss_nil)
  (pss_one (ps_ret (pe_marL (i := 0) cPl hr (by decide) (pa_cons (pe_lst (pa_cons (pe_tup (pa_cons (pe_globS G.east (by rfl)) (pa_cons (pv 1) pa_nil))) (pa_cons (pe_tup (pa_cons (pe_globS G.north (by rfl)) (pa_cons (pv 1) pa_nil))) pa_nil))) pa_nil))))), ?_⟩
    refine go_start (σ := [some _, some _]) rfl ?_
    walk_at "go"
    refine ⟨_, rfl, by omega, by omega, ?_⟩
    walk_at "go"
    rename_i t1 H1 n1 s1 e1 t2 H2 n2' s2 e2 l H3 nl s3 el
    refine mk_plan (brs := [(true, [(0, n), (1, n)])]) (.cons (.lst (SqL.of el) (.cons (tE (by tb_rel)) (.cons (tN (by tb_rel)) .nil))) .nil) (sq_ok n n2 n4) fun u H' s' pa => q u H' (by tb_rel) pa
theorem ok_pcodes {f : Addr} {fd : FuncData} (F : Df K "codes" "Plan.codes" s_pcodes [] f fd) (B : Blt mg) (G : PlG K mg C AX) (cPl : MaR P w K mg base 6 "Plan" C (spMk K C)) : FnOk P w K mg base CX0 8 f fd ["cls"] (sp_pcodes K C) := by
  refine dfOk F sc_pcodes (fun vs H Q E h => ?_) (fun cdv A outer s H vs Q E hr h => ?_)
  · obtain ⟨c, rfl, _⟩ := h
    rfl
  · obtain ⟨c, rfl, rfl, q⟩ := h
    refine ⟨_, (pss_cons (ps_setLc (i := 1) (own := [("k", 2)]) (by rfl) sc_pcodes.nd rfl rfl (sw_true rfl rfl rfl (by decide +kernel)) (pi_range1 (by rfl) B.range (pa_cons (pe_cvl G.mc (pv 0)) pa_nil)) (blkOk_by (own := [("k", 2)]) (N := ["cls", "one", "k", "other"]) (sc := defScope s_pcodes) (by decide +kernel)) (fun _ _ _ _ _ => (pg_name (i := 2) sc_pcodes.nd rfl (Or.inl rfl))) (fun _ _ _ _ _ => pts_nil) (fun _ _ _ _ _ => (pe_tup (pa_cons (pe_ix ix_tup' (pe_glob (v := .ref AX) (by rfl) G.axes rfl) (pe_op op_mod (pv 2) pe_int) (fun _ _ => rfl)) (pa_cons (pe_globI G.few (by rfl)) pa_nil)))))
  (pss_cons (ps_setLc (i := 3) (own := [("k", 2)]) (by rfl) sc_pcodes.nd rfl rfl (sw_true rfl rfl rfl (by decide +kernel)) (pi_range1 (by rfl) B.range (pa_cons (pe_cvl G.mc (pv 0)) pa_nil)) (blkOk_by (own := [("k", 2)]) (N := ["cls", "one", "k", "other"]) (sc := defScope s_pcodes) (by decide +kernel)) (fun _ _ _ _ _ => (pg_name (i := 2) sc_pcodes.nd rfl (Or.inl rfl))) (fun _ _ _ _ _ => pts_nil) (fun _ _ _ _ _ => (pe_tup (pa_cons (pe_ix ix_tup' (pe_glob (v := .ref AX) (by rfl) G.axes rfl) (pe_op op_mod (pe_op op_add (pv 2) pe_int) pe_int) (fun _ _ => rfl)) (pa_cons (pe_globI G.few (by rfl)) pa_nil)))))
  (pss_one (ps_ret (pe_marL (i := 0) cPl hr (by decide) (pa_cons (pv 1) (pa_cons (pv 3) pa_nil))))))), ?_⟩
    refine go_start (σ := [some _, none, none, none]) rfl ?_
    walk_at "go"
    have cut : ∀ (j : Nat) (H1 : Hp) (p : Addr), j < 2 → H1 p = some (.tup [.str (axn j), .int ((2 : Nat) : Int)]) → Dp K H1 (.ref p) (pCut (j, 2)) := fun j H1 p _ e => .tup (SqT.of e) (.cons (.str _) (.cons (.int _) .nil))
    refine go_rg1 (k := 5) (by decide) ?_
    refine lcRange (K := K) (fun i => pCut (i % 2, 2)) (by decide) (fun _ _ => rfl) (fun _ => rfl) (fun i H1 Q' hi s1 hq => ?_) (fun D H1 ys nD s1 eD hall => ?_)
    · walk_at "go"
      refine go_ixt (G.axt _) (ax_at2 (Nat.mod_lt _ (by decide))) ?_
      walk_at "go"
      exact hq _ _ (by tb_rel) (cut _ _ _ (Nat.mod_lt _ (by decide)) (by assumption))
    · walk_at "go"
      refine go_rg1 (k := 5) (by decide) ?_
      refine lcRange (K := K) (fun i => pCut ((i + 1) % 2, 2)) (by decide) (fun _ _ => rfl) (fun _ => rfl) (fun i H2 Q' hi s2 hq => ?_) (fun D2 H2 zs nD2 s2 eD2 hall2 => ?_)
      · walk_at "go"
        refine go_ixt (G.axt _) (ax_at2 (Nat.mod_lt _ (by decide))) ?_
        walk_at "go"
        exact hq _ _ (by tb_rel) (cut _ _ _ (Nat.mod_lt _ (by decide)) (by assumption))
      · walk_at "go"
        refine mk_plan (brs := [(true, codesR.getD 0 []), (true, codesR.getD 1 [])]) (.cons (.lst (SqL.of (s2 _ _ eD)) (hall.up s2)) (.cons (.lst (SqL.of eD2) hall2) .nil)) (by decide) fun u H' s' pa => q u H' (by tb_rel) pa
end
end T
set_option Elab.async false
set_option maxRecDepth 100000
set_option maxHeartbeats 4000000
/-! Data that is small enough to be shown. -/
namespace Mv
open PySem PySem.Spec PyProof.Rows L2
/-- at most k deep, of weight at most W -/
structure Sma (k W : Nat) (d : PyData) : Prop where
  sh : d.showable = true
  nd : d.hasDict = false
  dp : d.depth ≤ k
  lf : d.leavesShort 401 = true
  wt : d.weight ≤ W
theorem Sma.mono {k W k' W' : Nat} {d : PyData} (h : Sma k W d) (h1 : k ≤ k') (h2 : W ≤ W') : Sma k' W' d := ⟨h.sh, h.nd, Nat.le_trans h.dp h1, h.lf, Nat.le_trans h.wt h2⟩
theorem Sma.shw {k W : Nat} {d : PyData} (h : Sma k W d) (h1 : k ≤ 60) (h2 : W ≤ 40000) : Shw d := by
  refine ⟨h.sh, h.nd, Nat.le_trans h.dp h1, ?_⟩
  have := PyData.shown_le 401 (by decide) d h.lf
  have := h.wt
  unfold sizeLine
  omega
theorem Sma.len {k W : Nat} {d : PyData} (h : Sma k W d) : d.shown.length ≤ 403 * W + 403 := by
  have := PyData.shown_le 401 (by decide) d h.lf
  have := h.wt
  omega
theorem Sma.int {n : Nat} (h : n < 10 ^ 400) : Sma 0 1920 (.int (n : Int)) := by
  have l : n.log2 < 1920 := lg_lt (Nat.lt_trans h (by decide +kernel)) (by decide)
  have s : (PyData.shown (.int (n : Int))).length ≤ 401 := by
    have e := int_text_length_le10 (a := (n : Int)) (k := 400) (by decide) (by rw [Int.natAbs_natCast]; exact h)
    show (Str.ofString (toString (n : Int))).length ≤ 401
    rw [PySem.ofString_length]; exact e
  refine ⟨?_, rfl, by simp [PyData.depth], ?_, ?_⟩
  · simp only [PyData.showable, decide_eq_true_eq, Int.natAbs_natCast]
    exact l
  · simp only [PyData.leavesShort, decide_eq_true_eq]
    exact s
  · simp only [PyData.weight, Int.natAbs_natCast]
    split <;> omega
theorem Sma.bool (b : Bool) : Sma 0 0 (.bool b) := ⟨rfl, rfl, by simp [PyData.depth], rfl, by simp [PyData.weight]⟩
theorem sm_all {k W : Nat} : ∀ {ds : List PyData}, (∀ d ∈ ds, Sma k W d) → PyData.showableAll ds = true ∧ PyData.hasDictAll ds = false ∧ PyData.depthAll ds ≤ k ∧ PyData.leavesShortAll 401 ds = true ∧ PyData.weightAll ds ≤ ds.length * (W + 1)
  | [], _ => ⟨rfl, rfl, by simp [PyData.depthAll], rfl, by simp [PyData.weightAll]⟩
  | d :: ds, h => by
    obtain ⟨a, b, c, e, f⟩ := sm_all (ds := ds) fun x hx => h x (List.mem_cons_of_mem _ hx)
    have g := h d (List.mem_cons_self ..)
    refine ⟨by simp [PyData.showableAll, g.sh, a], by simp [PyData.hasDictAll, g.nd, b], ?_, by simp [PyData.leavesShortAll, g.lf, e], ?_⟩
    · simp only [PyData.depthAll]
      exact Nat.max_le.mpr ⟨g.dp, c⟩
    · simp only [PyData.weightAll, List.length_cons, Nat.add_mul, Nat.one_mul]
      have := g.wt
      omega
theorem Sma.list {k W : Nat} {ds : List PyData} (h : ∀ d ∈ ds, Sma k W d) : Sma (k + 1) (ds.length * (W + 1)) (.list ds) := by
  obtain ⟨a, b, c, e, f⟩ := sm_all h
  refine ⟨by simpa [PyData.showable] using a, by simpa [PyData.hasDict] using b, by simp only [PyData.depth]; omega, by simpa [PyData.leavesShort] using e, by simpa [PyData.weight] using f⟩
theorem Sma.tuple {k W : Nat} {ds : List PyData} (h : ∀ d ∈ ds, Sma k W d) : Sma (k + 1) (ds.length * (W + 1)) (.tuple ds) := by
  obtain ⟨a, b, c, e, f⟩ := sm_all h
  refine ⟨by simpa [PyData.showable] using a, by simpa [PyData.hasDict] using b, by simp only [PyData.depth]; omega, by simpa [PyData.leavesShort] using e, by simpa [PyData.weight] using f⟩
/-- a cut, a round, rounds -/
theorem sm_cut {c : Pm.Cut} (h : Pm.CutOk c) : Sma 1 12 (pCut c) := by
  obtain ⟨a, n⟩ := c
  have h1 : a < 2 := h.1
  have h2 : 2 ≤ n := h.2.1
  have h3 : n ≤ 4 := h.2.2
  rcases (by omega : a = 0 ∨ a = 1) with rfl | rfl <;> rcases (by omega : n = 2 ∨ n = 3 ∨ n = 4) with rfl | rfl | rfl <;> exact ⟨by decide +kernel, by decide +kernel, by decide +kernel, by decide +kernel, by decide +kernel⟩
theorem sm_rnd {r : List Pm.Cut} (h : Pm.RndOk r) : Sma 2 65 (.list (r.map pCut)) := by
  refine (Sma.list (k := 1) (W := 12) fun d hd => ?_).mono (Nat.le_refl _) ?_
  · obtain ⟨c, hc, rfl⟩ := List.mem_map.mp hd
    exact sm_cut (h.2.2.1 c hc)
  · have := h.2.1
    rw [List.length_map]
    omega
theorem sm_rds {rs : List (List Pm.Cut)} (h : Pm.RdsOk rs) : Sma 3 198 (.list (rs.map fun r => .list (r.map pCut))) := by
  refine (Sma.list (k := 2) (W := 65) fun d hd => ?_).mono (Nat.le_refl _) ?_
  · obtain ⟨r, hr, rfl⟩ := List.mem_map.mp hd
    exact sm_rnd (h.2.2.1 r hr)
  · have := h.2.1
    rw [List.length_map]
    omega
end Mv
set_option Elab.async false
set_option maxRecDepth 100000
set_option maxHeartbeats 4000000
namespace T
open PySem L2 Mv
abbrev s_prepr : Stmt := inClass (top 32) 18
theorem sc_prepr : FnScope ["self", "cuts"] ["self"] (defScope s_prepr) := ⟨rfl, rfl, rfl, by decide +kernel, rfl, by decide +kernel, by decide +kernel⟩
section
variable {P : Program} {w : World} {K : PySem.W.Frag} {mg : Str → Option Value} {base : Heap} {C AX : Addr}
/-- what repr tells of a plan -/
def planTxt (rs : List (List Pm.Cut)) : Str := Str.empty ++ "Plan(" ++ Txt.join ", " (rs.map fun r => (pRnd r).shown) ++ ")"
theorem sum_shown : ∀ (rs : List (List Pm.Cut)), (∀ r ∈ rs, (pRnd r).shown.length ≤ 30000) → ((rs.map fun r => (pRnd r).shown).map (·.length)).sum ≤ rs.length * 30000
  | [], _ => Nat.le_refl _
  | r :: rs, h => by
    have h1 := h r (List.mem_cons_self ..)
    have h2 := sum_shown rs fun x hx => h x (List.mem_cons_of_mem _ hx)
    simp only [List.map_cons, List.sum_cons, List.length_cons, Nat.add_mul, Nat.one_mul]
    omega
def sp_prepr (K : PySem.W.Frag) (C : Addr) : Sp := fun vs H Q _ => ∃ (v : V) (rs : List (List Pm.Cut)), vs = [v] ∧ PlanAt K C H v rs ∧ ∀ H', Same H H' → Q (.str (planTxt rs)) H'
theorem c_prepr {K : PySem.W.Frag} {C : Addr} {v : V} {rs : List (List Pm.Cut)} {H : Hp} {Q : VK} {E : XK} (h0 : PlanAt K C H v rs) (q : ∀ H', Same H H' → Q (.str (planTxt rs)) H') : sp_prepr K C [v] H Q E := ⟨_, _, rfl, h0, q⟩
local macro_rules | `(tactic| tb_rel) => `(tactic| repeat (first
  | with_reducible assumption
  | with_reducible exact Dp.int _
  | with_reducible exact Dp.str _
  | with_reducible exact Dp.bl _
  | with_reducible exact Dp.non
  | (with_reducible apply SqT.of; with_reducible assumption)
  | (with_reducible apply SqL.of; with_reducible assumption)
  | (with_reducible apply up_dp; with_reducible assumption)
  | (with_reducible apply up_sqt; with_reducible assumption)
  | (with_reducible apply up_sql; with_reducible assumption)
  | (with_reducible apply up_get; with_reducible assumption)
  | (with_reducible apply up_pot; with_reducible assumption)
  | with_reducible exact Same.refl _
  | with_reducible exact Bu.refl _ _
  | (with_reducible apply up_same; with_reducible assumption)
  | (with_reducible apply up_bu; with_reducible assumption)
  | (with_reducible apply bu_bu; with_reducible assumption)
  | (with_reducible apply free_of; with_reducible assumption)
  | (with_reducible apply mi_fr; with_reducible assumption; (focus (tb_rel; done)))
  | (with_reducible apply mi_dp; with_reducible assumption)
  | (with_reducible apply mi_sqt; with_reducible assumption)
  | (with_reducible apply mi_sql; with_reducible assumption)
  | (with_reducible apply mi_gett; with_reducible assumption)
  | (with_reducible apply mi_getl; with_reducible assumption)
  | (with_reducible apply mi_pot; with_reducible assumption)
  | (with_reducible apply mi_refl; with_reducible assumption; (focus (with_unfolding_all exact rfl)))
  | (with_reducible apply up_mi; with_reducible assumption)
  | (with_reducible apply mi_mi; with_reducible assumption)
  | (with_reducible apply mi_bu; with_reducible assumption)
  | (with_reducible apply up_plan; with_reducible assumption)
  | (with_reducible apply bu_plan; with_reducible assumption; (focus (tb_rel; done)))
  | (with_reducible apply mi_plan; with_reducible assumption; (focus (lcg_src; done)))
  | (with_reducible apply bu_gett; with_reducible assumption; (focus (tb_rel; done)))
  | (with_reducible apply bu_geti; with_reducible assumption; (focus (tb_rel; done)))
  | (with_reducible apply bu_get; with_reducible assumption; (focus (tlg_ne; done)))
  | (with_reducible apply bu_sqt; with_reducible assumption; (focus (tb_rel; done)))
  | (with_reducible apply bu_sql; with_reducible assumption; (focus (tlg_ne; done)))
  | (with_reducible apply bu_dp; with_reducible assumption; (focus (tb_rel; done)); (focus (lcg_src; done)))
  | fail "up"))
local macro_rules | `(tactic| tlg_ne) => `(tactic| first
  | with_reducible assumption
  | (with_reducible apply pot_ne; with_reducible assumption; (focus (tb_rel; done)))
  | fail "ne")
local macro_rules | `(tactic| lcg_src) => `(tactic| first
  | with_reducible assumption
  | with_unfolding_all exact rfl
  | with_unfolding_all decide
  | with_unfolding_all exact Nat.ne_of_beq_eq_false rfl
  | (apply_assumption; done)
  | omega
  | (simp; done)
  | (simp; omega)
  | fail "sd")
local macro_rules | `(tactic| lcg_sub) => `(tactic| first
  | (unfold sizeLine; omega)
  | (simp only [List.length_cons, List.length_nil, List.length_append, List.length_map, List.length_replicate, List.length_take, List.length_drop]; unfold sizeLine; omega)
  | (simp; unfold sizeLine; omega)
  | fail "sz")
local macro_rules | `(tactic| nest_cls) => `(tactic| first
  | (tb_rel; done)
  | (with_reducible apply nmI; (focus (tb_rel; done)))
  | (with_reducible apply d_tup; (focus (tb_rel; done)); (focus (lsm_bools; done)))
  | (with_reducible apply d_lst; (focus (tb_rel; done)); (focus (lsm_bools; done)))
  | fail "dp")
local macro_rules | `(tactic| lsm_bools) => `(tactic| repeat (first
  | with_reducible exact DpAll.nil
  | with_reducible assumption
  | (with_reducible apply DpAll.cons; (focus (nest_cls; done)))
  | fail "dpa"))
local macro_rules | `(tactic| none_booked) => `(tactic| first | with_unfolding_all exact rfl | (with_reducible apply atI_nat; with_reducible assumption) | fail "ix")
local macro_rules | `(tactic| walk_at "go") => `(tactic| repeat (first
  | (focus (with_reducible refine go_var (v := ?_) ?_ ?_; rotate_left; (focus (with_unfolding_all exact rfl))))
  | with_reducible refine go_seq ?_
  | with_reducible refine go_cN ?_
  | with_reducible refine go_c ?_
  | with_reducible refine go_op ?_
  | with_reducible refine go_nil ?_
  | with_reducible refine go_cons ?_
  | with_reducible refine go_cb ?_
  | with_reducible refine go_call0 ?_
  | with_reducible refine go_asg ?_
  | (focus (with_reducible refine go_gname (σ' := ?_) ?_ ?_; rotate_left; (focus (simp only [List.set_cons_succ, List.set_cons_zero]; exact rfl))))
  | with_reducible refine go_par ?_
  | (focus (with_reducible refine go_par2 (σ' := ?_) ?_ ?_; rotate_left; (focus (simp only [List.set_cons_succ, List.set_cons_zero]; exact rfl))))
  | with_reducible refine go_ifs ?_
  | with_reducible refine go_test ?_
  | with_reducible refine go_tb ?_
  | with_reducible refine go_asb ?_
  | with_reducible refine go_asi ?_
  | with_reducible refine go_ret ?_
  | with_reducible refine go_retn ?_
  | with_reducible refine go_drop ?_
  | with_reducible refine go_next ?_
  | with_reducible refine go_and ?_
  | with_reducible refine go_or ?_
  | with_reducible refine go_not ?_
  | with_reducible refine go_andv ?_
  | with_reducible refine go_orv ?_
  | with_reducible refine go_notv ?_
  | with_reducible refine go_ife ?_
  | with_reducible refine go_chain ?_
  | with_reducible refine go_if1 ?_
  | with_reducible refine go_if0 ?_
  | with_reducible refine go_ifn1 ?_
  | with_reducible refine go_ifn0 ?_
  | (with_reducible apply go_ift; (focus (first | with_reducible rfl | with_reducible assumption | omega)))
  | (with_reducible apply go_ifnt; (focus (first | with_reducible rfl | with_reducible assumption | omega)))
  | (with_reducible apply go_iff; (focus (first | with_reducible assumption | omega)))
  | (with_reducible apply go_ifnf; (focus (first | with_reducible assumption | omega)))
  | with_reducible refine go_un ?_
  | with_reducible refine go_tup ?_
  | with_reducible refine go_lst ?_
  | (with_reducible apply go_newt; (focus (lcg_sub; done)); intros)
  | (with_reducible apply go_newl; (focus (lcg_sub; done)); intros)
  | with_reducible refine go_meth ?_
  | with_reducible refine go_for ?_
  | with_reducible refine go_lc ?_
  | with_reducible refine go_irng1 ?_
  | with_reducible refine go_irng2 ?_
  | with_reducible refine go_ilist ?_
  | with_reducible refine go_itup ?_
  | with_reducible refine go_izip ?_
  | with_reducible refine go_ienum ?_
  | (with_reducible apply go_rg1; (focus (lcg_src; done)))
  | (with_reducible apply go_rg2; (focus (lcg_src; done)); (focus (lcg_src; done)))
  | (with_reducible apply go_lsr; (focus (tb_rel; done)))
  | (with_reducible apply go_tpr; (focus (tb_rel; done)))
  | (with_reducible apply go_zpr; (focus (tb_rel; done)); (focus (tb_rel; done)))
  | (with_reducible apply go_zprT; (focus (tb_rel; done)); (focus (tb_rel; done)))
  | (with_reducible apply go_enrL; (focus (tb_rel; done)))
  | (with_reducible apply go_enrT; (focus (tb_rel; done)))
  | with_reducible refine go_prop ?_
  | with_reducible refine go_knr0 ?_
  | (with_reducible apply go_knr; (focus (with_unfolding_all exact rfl; done)); (focus (simp only [kSw2, kRev3, kId, List.nil_append, List.cons_append]; exact rfl)))
  | with_reducible refine go_mkn ?_
  | (with_reducible apply go_mkr; (focus (tb_rel; done)); (focus (with_unfolding_all exact rfl; done)))
  | with_reducible refine go_fld ?_
  | (with_reducible apply go_flr; (focus (tb_rel; done)); (focus (with_reducible assumption; done)); (focus (with_reducible assumption; done)); (focus (with_unfolding_all exact rfl; done)))
  | (with_reducible apply go_prr; (focus (tb_rel; done)))
  | (with_reducible apply go_mer; (focus (tb_rel; done)); (focus (with_unfolding_all exact rfl; done)))
  | with_reducible refine go_sfld ?_
  | (with_reducible apply go_sfr; (focus (tb_rel; done)); (focus (with_reducible assumption; done)); (focus (with_reducible assumption; done)); (focus (with_unfolding_all exact Nat.le_of_ble_eq_true rfl; done)); (focus (with_unfolding_all exact rfl; done)); intros)
  | with_reducible refine go_revt ?_
  | with_reducible refine go_make0 ?_
  | (focus (with_reducible refine go_aug (x := ?_) ?_ ?_; rotate_left; (focus (with_unfolding_all exact rfl))))
  | (focus (with_reducible refine go_augk (σ' := ?_) ?_ ?_; rotate_left; (focus (simp only [List.set_cons_succ, List.set_cons_zero]; exact rfl))))
  | with_reducible refine go_min2 ?_
  | with_reducible refine go_int1 ?_
  | with_reducible refine go_max2 ?_
  | with_reducible refine go_intB ?_
  | with_reducible refine go_absN ?_
  | with_reducible refine go_isN ?_
  | with_reducible refine go_notN ?_
  | (with_reducible apply go_rvt; (focus (tb_rel; done)); (focus (simp only [List.reverse_cons, List.reverse_nil, List.nil_append, List.cons_append]; exact rfl)); intros)
  | (with_reducible apply go_reprNm; (focus (tb_rel; done)); (focus (with_reducible assumption; done)))
  | (with_reducible apply go_reprPr; (focus (nest_cls; done)); (focus (lcg_src; done)); (focus (lcg_src; done)))
  | with_reducible refine go_sl ?_
  | with_reducible refine go_part ?_
  | with_reducible refine go_nopart ?_
  | (with_reducible apply go_gtup; (focus (tb_rel; done)); (focus (with_unfolding_all exact rfl; done)))
  | (with_reducible apply go_gunl; (focus (tb_rel; done)); (focus (with_unfolding_all exact rfl; done)))
  | with_reducible refine go_gcons ?_
  | with_reducible refine go_gnil ?_
  | with_reducible refine go_addN ?_
  | with_reducible refine go_ltN ?_
  | with_reducible refine go_leN ?_
  | with_reducible refine go_gtN ?_
  | with_reducible refine go_geN ?_
  | (with_reducible apply go_subN; (focus (omega; done)))
  | with_reducible refine go_rI0 ?_
  | (with_reducible apply go_mulN; (focus (omega; done)))
  | (with_reducible apply go_modN; (focus (omega; done)))
  | (with_reducible apply go_divN; (focus (omega; done)))
  | (with_reducible apply go_powN; (focus (with_unfolding_all decide; done)))
  | with_reducible refine go_rU ?_
  | with_reducible refine go_eqN ?_
  | with_reducible refine go_neN ?_
  | with_reducible refine go_isB ?_
  | with_reducible refine go_notB ?_
  | with_reducible refine go_eqS ?_
  | with_reducible refine go_neS ?_
  | with_reducible refine go_eqB ?_
  | with_reducible refine go_eqI ?_
  | with_reducible refine go_neI ?_
  | (with_reducible apply go_ixt; (focus (tb_rel; done)); (focus (none_booked; done)))
  | (with_reducible apply go_ixl; (focus (tb_rel; done)); (focus (none_booked; done)))
  | (with_reducible apply go_lent; (focus (tb_rel; done)))
  | (with_reducible apply go_lenNm; (focus (tb_rel; done)))
  | (with_reducible apply go_isiNm; (focus (tb_rel; done)))
  | (with_reducible apply go_lenl; (focus (tb_rel; done)))
  | (with_reducible apply go_catA; (focus (tb_rel; done)); (focus (tb_rel; done)); (focus (lcg_sub; done)); intros)
  | (with_reducible apply go_slaT; (focus (tb_rel; done)); intros)
  | (with_reducible apply go_slaD; (focus (tb_rel; done)); intros)
  | (with_reducible apply go_rep; (focus (tb_rel; done)); (focus (lcg_src; done)); intros)
  | (with_reducible apply go_tupofl; (focus (tb_rel; done)); intros)
  | (with_reducible apply go_sllT; (focus (tb_rel; done)); intros)
  | (with_reducible apply go_sllD; (focus (tb_rel; done)); intros)
  | (with_reducible apply go_cat; (focus (tb_rel; done)); (focus (tb_rel; done)); (focus (lcg_sub; done)); intros)
  | (with_reducible apply go_eqP; with_reducible assumption; (focus (tb_rel; done)); (focus (tb_rel; done)))
  | (with_reducible apply go_neP; with_reducible assumption; (focus (tb_rel; done)); (focus (tb_rel; done)))
  | (with_reducible apply go_mep; (focus (tb_rel; done)); (focus decide); (focus decide); (focus decide))
  | (with_reducible apply c_prepr; (focus (tb_rel; done)); intros)
  | fail "go"))
theorem ok_prepr {f : Addr} {fd : FuncData} (F : Df K "__repr__" "Plan.__repr__" s_prepr [] f fd) (B : Blt mg) (G : PlG K mg C AX) : FnG P w K mg base 2 f fd ["self"] (sp_prepr K C) := by
  refine dfG F sc_prepr (fun vs H Q E h => ?_) (fun cdv A outer s H vs Q E hr ga h => ?_)
  · obtain ⟨v, rs, rfl, _⟩ := h
    rfl
  · obtain ⟨v, rs, rfl, hp, q⟩ := h
    obtain ⟨a, dx, R, Pt, rfl, ea, hR, hP⟩ := hp.ex
    obtain ⟨b, xs, rfl, hs, ha⟩ := hR.lstE
    have hxl : xs.length = rs.length := by rw [ha.len, List.length_map]
    have cl := G.I.cl
    have nR := G.nR
    refine ⟨_, (pss_one (ps_ret (pe_joined (.cons pe_str (.cons (pe_fmt (pe_join' pe_str (pe_lc (own := [("cuts", 1)]) (by rfl) sc_prepr.nd (pi_list' (pe_fld' (pv 0) rfl)) (blkOk_by (own := [("cuts", 1)]) (N := ["self", "cuts"]) (sc := defScope s_prepr) (by decide +kernel)) (fun _ _ _ _ _ => (pg_name (i := 1) sc_prepr.nd rfl (Or.inl rfl))) (fun _ _ _ _ _ => pts_nil) (fun _ _ _ _ _ => (pe_callB (call_reprD' ga hr) (by rfl) B.repr bt_repr (pa_cons (pv 1) pa_nil)))))) (.cons pe_str .nil)))))), ?_⟩
    refine go_start (σ := [some _, none]) rfl ?_
    walk_at "go"
    have len_all : ∀ r ∈ rs, (pRnd r).shown.length ≤ 30000 := fun r hr => by
      have := (sm_rnd (hp.ok.2.2.1 r hr)).len
      show (PyData.list (r.map pCut)).shown.length ≤ 30000
      omega
    have l3 := hp.ok.2.1
    have sum_all := sum_shown rs len_all
    refine ⟨_, rfl, by decide +kernel, ⟨_, rfl⟩, ?_⟩
    walk_at "go"
    refine lcList (K := K) (fun i => .str (pRnd (rs.getD i [])).shown) (by tb_rel) (by omega) (fun _ _ => rfl) (fun _ => rfl) (fun i x H1 Q' hi hx s1 hq => ?_) (fun D H1 ys nD s1 eD hall => ?_)
    · obtain ⟨d, hd1, hd2⟩ := (ha.up s1).get hx
      rw [List.getElem?_map] at hd1
      obtain ⟨r, hr1, rfl⟩ := Option.map_eq_some_iff.mp hd1
      obtain ⟨c, zs, rfl, hzs, hza⟩ := hd2.lstE
      walk_at "go"
      refine go_reprD hd2 ((sm_rnd (hp.ok.2.2.1 r (List.mem_of_getElem? hr1))).shw (by decide) (by decide)) ?_
      refine hq _ _ (by tb_rel) ?_
      rw [List.getD_eq_getElem?_getD, hr1]
      exact .str _
    · have es : ys = (rs.map fun r => (pRnd r).shown).map V.str := by
        refine DpAll.strsE (K := K) (H := H1) ?_
        have e : (List.range xs.length).map (fun i => PyData.str (pRnd (rs.getD i [])).shown) = (rs.map fun r => (pRnd r).shown).map PyData.str := by
          rw [hxl]
          refine List.ext_getElem? fun i => ?_
          rw [List.getElem?_map, List.getElem?_map, List.getElem?_map]
          rcases Nat.lt_or_ge i rs.length with c | c
          · rw [List.getElem?_range c, List.getElem?_eq_getElem c]
            simp [List.getD_eq_getElem?_getD, List.getElem?_eq_getElem c]
          · rw [List.getElem?_eq_none (by simpa using c), List.getElem?_eq_none c]
            rfl
        rw [← e]
        exact hall
      subst es
      have lj : (Txt.join ", " (rs.map fun r => (pRnd r).shown)).length ≤ 100000 := by
        rw [show Txt.join ", " (rs.map fun r => (pRnd r).shown) = Str.join ", " (rs.map fun r => (pRnd r).shown) from PySem.StrLaws.glued_eq_join _ _]
        refine Nat.le_trans (StrLaws.join_length_le _ _) ?_
        rw [List.length_map]
        have : (", " : Str).length = 2 := by decide +kernel
        rw [this]
        omega
      have lp : (Str.empty ++ ("Plan(" : Str)).length = 5 := by decide +kernel
      have lq : (")" : Str).length = 1 := by decide +kernel
      refine ⟨", ", D, _, rfl, rfl, .inl (SqL.of eD), ?_, ?_⟩
      · rw [List.length_map]
        have : (", " : Str).length = 2 := by decide +kernel
        rw [this]
        omega
      refine .inl ⟨_, rfl, by unfold sizeLine; omega, _, rfl, by rw [PySem.Str.length_append, lp]; unfold sizeLine; omega, _, rfl, by rw [PySem.Str.length_append, PySem.Str.length_append, lp, lq]; unfold sizeLine; omega, ?_⟩
      exact q _ s1
end
end T
set_option Elab.async false
set_option maxRecDepth 100000
set_option maxHeartbeats 4000000
/-! Comprehensions that keep some items. -/
namespace Mv
open PySem PySem.Spec PyProof.Rows L2
def pickB {α : Type} : List α → List Bool → List α
  | x :: xs, b :: bs => if b then x :: pickB xs bs else pickB xs bs
  | _, _ => []
theorem pickB_snoc {α : Type} : ∀ (xs : List α) (bs : List Bool) (x : α) (b : Bool), xs.length = bs.length → pickB (xs ++ [x]) (bs ++ [b]) = pickB xs bs ++ (if b then [x] else [])
  | [], [], x, b, _ => by cases b <;> rfl
  | [], _ :: _, _, _, h => by cases h
  | _ :: _, [], _, _, h => by cases h
  | y :: xs, c :: bs, x, b, h => by
    have := pickB_snoc xs bs x b (Nat.succ.inj h)
    cases c
    · simpa [pickB] using this
    · simp [pickB, this]
theorem pickB_map {α : Type} (p : α → Bool) : ∀ xs : List α, pickB xs (xs.map p) = xs.filter p
  | [] => rfl
  | x :: xs => by
    have := pickB_map p xs
    cases h : p x <;> simp [pickB, h, this]
theorem pickB_len {α : Type} : ∀ (xs : List α) (bs : List Bool), (pickB xs bs).length ≤ xs.length
  | [], _ => by simp [pickB]
  | x :: xs, [] => by simp [pickB]
  | x :: xs, b :: bs => by
    have := pickB_len xs bs
    cases b <;> simp [pickB] <;> omega
theorem pickB_mem {α : Type} {y : α} : ∀ {xs : List α} {bs : List Bool}, y ∈ pickB xs bs → ∃ i : Nat, xs[i]? = some y ∧ bs[i]? = some true
  | [], _, h => by simp [pickB] at h
  | x :: xs, [], h => by simp [pickB] at h
  | x :: xs, b :: bs, h => by
    cases b with
    | false =>
      obtain ⟨i, h1, h2⟩ := pickB_mem (xs := xs) (bs := bs) (by simpa [pickB] using h)
      exact ⟨i + 1, by simpa using h1, by simpa using h2⟩
    | true =>
      simp only [pickB, if_true, List.mem_cons] at h
      rcases h with rfl | h
      · exact ⟨0, rfl, rfl⟩
      · obtain ⟨i, h1, h2⟩ := pickB_mem (xs := xs) (bs := bs) h
        exact ⟨i + 1, by simpa using h1, by simpa using h2⟩
theorem pickB_dp {K : PySem.W.Frag} {H : Hp} : ∀ {xs : List V} {ds : List PyData} (bs : List Bool), DpAll K H xs ds → DpAll K H (pickB xs bs) (pickB ds bs)
  | [], [], _, .nil => by simp only [pickB]; exact .nil
  | _ :: _, _ :: _, [], .cons _ _ => by simp only [pickB]; exact .nil
  | _ :: _, _ :: _, b :: bs, .cons h1 h2 => by
    have := pickB_dp bs h2
    cases b
    · simpa [pickB] using this
    · simp only [pickB, if_true]
      exact .cons h1 this
section
variable {K : PySem.W.Frag} {σ : L2.St} {H : Hp} {Q : VK} {vs : List Nat} {xs : List V} {te : TE} {tt : TT} {a : Addr}
theorem lcFilV {j : Nat} (bs : List Bool) (hb : bs.length = xs.length) (ha : SqL K H a xs) (hz : xs.length ≤ 100000) (hw : ∀ x, wipe ((wipe σ vs).set j (some x)) vs = wipe σ vs)
    (ht : ∀ (i : Nat) (x : V) (b : Bool) (H1 : Hp) (R : Bool → Hp → Prop), xs[i]? = some x → bs[i]? = some b → Same H H1 → (∀ H2, Same H1 H2 → R b H2) → tt ((wipe σ vs).set j (some x)) H1 R)
    (he : ∀ (x : V) (H1 : Hp) (Q' : VK), Q' x H1 → te ((wipe σ vs).set j (some x)) H1 Q')
    (hd : ∀ D H', H D = none → Same H H' → H' D = some (.lst (pickB xs bs)) → Q (.ref D) H') : LcR (gName j) tt te vs σ Q (Itl K a) H := by
  intro D hD
  refine lc_it walk_list (fun i H' => i ≤ xs.length ∧ Same H H' ∧ H' D = some (.lst (pickB (xs.take i) (bs.take i)))) ⟨Nat.zero_le _, same_new hD, by rw [upd_same]; rfl⟩ (fun i H' _ h => h.2.1.seq ha) ?_ ?_
  · rintro i x H1 H2 hi ⟨_, s, ed⟩ ⟨rfl, hx⟩
    have hbi : i < bs.length := by omega
    have hb' : bs[i]? = some bs[i] := List.getElem?_eq_getElem hbi
    have e1 : pickB (xs.take (i + 1)) (bs.take (i + 1)) = pickB (xs.take i) (bs.take i) ++ (if bs[i] then [x] else []) := by
      rw [List.take_add_one, List.take_add_one, hx, hb']
      exact pickB_snoc _ _ _ _ (by rw [List.length_take, List.length_take]; omega)
    refine ⟨hw _, ht i x bs[i] _ _ hx hb' s fun H3 s3 => ?_⟩
    cases hbb : bs[i] with
    | false =>
      rw [hbb] at e1
      refine ⟨hi, s.trans s3, ?_⟩
      rw [e1, s3 _ _ ed]
      simp
    | true =>
      rw [hbb] at e1
      refine he x _ _ ⟨_, s3 _ _ ed, ?_, hi, same_over (s.trans s3) hD, ?_⟩
      · have := pickB_len (xs.take i) (bs.take i)
        have : (xs.take i).length ≤ xs.length := by rw [List.length_take]; omega
        unfold sizeLine; omega
      · rw [upd_same, e1]
        rfl
  · rintro H1 ⟨_, s, ed⟩
    rw [List.take_length, ← hb, List.take_length] at ed
    exact hd D H1 hD s ed
theorem go_yes {QB : Bool → Hp → Prop} (q : QB true H) : tYes σ H QB := q
end
end Mv
set_option Elab.async false
set_option maxRecDepth 100000
set_option maxHeartbeats 4000000
namespace T
open PySem L2 Mv
abbrev s_lprod : Stmt := top 40
theorem sc_lprod : FnScope ["_law_row", "_law_found", "_law_axis", "_law_pieces"] ["_law_row"] (defScope s_lprod) := ⟨rfl, rfl, rfl, by decide +kernel, rfl, by decide +kernel, by decide +kernel⟩
abbrev s_lparts : Stmt := top 44
theorem sc_lparts : FnScope ["_law_row", "_law_found", "_law_cut", "_law_axis"] ["_law_row"] (defScope s_lparts) := ⟨rfl, rfl, rfl, by decide +kernel, rfl, by decide +kernel, by decide +kernel⟩
abbrev s_lplace : Stmt := top 43
theorem sc_lplace : FnScope ["_law_row", "_law_glyph", "_law_digits", "_law_found", "_law_axis", "_law_pieces", "_law_digit"] ["_law_row", "_law_glyph"] (defScope s_lplace) := ⟨rfl, rfl, rfl, by decide +kernel, rfl, by decide +kernel, by decide +kernel⟩
section
variable {P : Program} {w : World} {K : PySem.W.Frag} {mg : Str → Option Value} {base : Heap} {C AX : Addr}
theorem size_take {r : List Pm.Cut} {i : Nat} {c : Pm.Cut} (h : r[i]? = some c) : Pm.size (r.take (i + 1)) = Pm.size (r.take i) * c.2 := by
  rw [List.take_add_one, h]
  simp only [Option.toList]
  rw [Pm.size_app]
  simp [Pm.size]
theorem size_fil (ax : Nat) : ∀ r : List Pm.Cut, Pm.size (r.filter fun c => decide (c.1 = ax)) = Pm.wid r ax
  | [] => rfl
  | c :: r => by
    have ih := size_fil ax r
    by_cases h : c.1 = ax
    · rw [List.filter_cons_of_pos (by simpa using h)]
      simp [Pm.size, Pm.wid, h, ih]
    · rw [List.filter_cons_of_neg (by simpa using h)]
      simp [Pm.wid, h, ih]
theorem pick_cuts (p : Pm.Cut → Bool) : ∀ r : List Pm.Cut, pickB (r.map pCut) (r.map p) = (r.filter p).map pCut
  | [] => rfl
  | c :: r => by
    have := pick_cuts p r
    cases h : p c <;> simp [pickB, h, this]
theorem axn_dec {a b : Nat} (ha : a < 2) (hb : b < 2) : decide (axn a = axn b) = decide (a = b) := by
  rcases (by omega : a = 0 ∨ a = 1) with rfl | rfl <;> rcases (by omega : b = 0 ∨ b = 1) with rfl | rfl <;> decide +kernel
theorem putK_len (kvs : List (Key × V)) (k : Key) (v : V) : (putK kvs k v).length ≤ kvs.length + 1 := by
  unfold putK
  split
  · rw [List.length_map]; omega
  · rw [List.length_append]; exact Nat.le_refl _
/-! digits -/
def dg : List Pm.Cut → Nat → List (Pm.Cut × Nat)
  | [], _ => []
  | c :: r, s => (c, s % c.2) :: dg r (s / c.2)
def fo (ax : Nat) (xs : List (Pm.Cut × Nat)) : Nat := xs.foldl (fun acc x => if x.1.1 = ax then acc * x.1.2 + x.2 else acc) 0
theorem fo_snoc (ax : Nat) (xs : List (Pm.Cut × Nat)) (x : Pm.Cut × Nat) : fo ax (xs ++ [x]) = if x.1.1 = ax then fo ax xs * x.1.2 + x.2 else fo ax xs := by
  unfold fo
  rw [List.foldl_append]
  rfl
theorem fo_dg (ax : Nat) : ∀ (r : List Pm.Cut) (s : Nat), fo ax (dg r s).reverse = Pm.al r s ax
  | [], _ => rfl
  | c :: r, s => by
    simp only [dg, List.reverse_cons, fo_snoc, Pm.al, fo_dg ax r]
    split
    · rw [Nat.mul_comm, Nat.add_comm]
    · rfl
theorem dg_mem : ∀ (r : List Pm.Cut) (s : Nat), ∀ x ∈ dg r s, x.1 ∈ r
  | [], _, x, h => by simp [dg] at h
  | c :: r, s, x, h => by
    simp only [dg, List.mem_cons] at h
    rcases h with rfl | h
    · exact List.mem_cons_self ..
    · exact List.mem_cons_of_mem _ (dg_mem r _ x h)
theorem dg_len : ∀ (r : List Pm.Cut) (s : Nat), (dg r s).length = r.length
  | [], _ => rfl
  | c :: r, s => by simp [dg, dg_len r]
def dDig (x : Pm.Cut × Nat) : PyData := .tuple [.str (axn x.1.1), .int x.1.2, .int x.2]
theorem nl_dig (l : List (Pm.Cut × Nat)) : NLs (l.map dDig) = true := NLs.of fun d hd => by
  obtain ⟨c, _, rfl⟩ := List.mem_map.mp hd
  rfl
theorem dig_at {K : PySem.W.Frag} {H : Hp} {v : V} {x : Pm.Cut × Nat} (h : Dp K H v (dDig x)) : ∃ a, v = .ref a ∧ SqT K H a [.str (axn x.1.1), .int x.1.2, .int x.2] := by
  obtain ⟨a, xs, rfl, hs, ha⟩ := h.tupE
  cases ha with
  | cons h1 h2 =>
    cases h2 with
    | cons h2 h3 =>
      cases h3 with
      | cons h3 h4 =>
        cases h4
        rw [h1.strE, h2.intE, h3.intE] at hs
        exact ⟨a, rfl, hs⟩
def CutsOk (r : List Pm.Cut) : Prop := ∀ c ∈ r, Pm.CutOk c
def sp_lprod (K : PySem.W.Frag) : Sp := fun vs H Q _ => ∃ (v : V) (r : List Pm.Cut), vs = [v] ∧ Dp K H v (pRnd r) ∧ CutsOk r ∧ Q (.int (Pm.size r : Nat)) H
theorem c_lprod {K : PySem.W.Frag} {v : V} {r : List Pm.Cut} {H : Hp} {Q : VK} {E : XK} (h0 : Dp K H v (pRnd r)) (h1 : CutsOk r) (q : Q (.int (Pm.size r : Nat)) H) : sp_lprod K [v] H Q E := ⟨_, _, rfl, h0, h1, q⟩
def sp_lparts (K : PySem.W.Frag) : Sp := fun vs H Q _ => ∃ (v : V) (r : List Pm.Cut), vs = [v] ∧ Dp K H v (pRnd r) ∧ Pm.RndOk r ∧ ∀ t H', Same H H' → H' t = some (.tup [.int (Pm.wid r 0 : Nat), .int (Pm.wid r 1 : Nat)]) → Q (.ref t) H'
theorem c_lparts {K : PySem.W.Frag} {v : V} {r : List Pm.Cut} {H : Hp} {Q : VK} {E : XK} (h0 : Dp K H v (pRnd r)) (h1 : Pm.RndOk r) (q : ∀ t H', Same H H' → H' t = some (.tup [.int (Pm.wid r 0 : Nat), .int (Pm.wid r 1 : Nat)]) → Q (.ref t) H') : sp_lparts K [v] H Q E := ⟨_, _, rfl, h0, h1, q⟩
def sp_lplace (K : PySem.W.Frag) : Sp := fun vs H Q _ => ∃ (v : V) (r : List Pm.Cut) (g : Nat), vs = [v, .int g] ∧ Dp K H v (pRnd r) ∧ Pm.RndOk r ∧ ∀ t H', Same H H' → H' t = some (.tup [.int (Pm.al r.reverse g 0 : Nat), .int (Pm.al r.reverse g 1 : Nat)]) → Q (.ref t) H'
theorem c_lplace {K : PySem.W.Frag} {v : V} {r : List Pm.Cut} {g : Nat} {H : Hp} {Q : VK} {E : XK} (h0 : Dp K H v (pRnd r)) (h1 : Pm.RndOk r) (q : ∀ t H', Same H H' → H' t = some (.tup [.int (Pm.al r.reverse g 0 : Nat), .int (Pm.al r.reverse g 1 : Nat)]) → Q (.ref t) H') : sp_lplace K [v, .int g] H Q E := ⟨_, _, _, rfl, h0, h1, q⟩
local macro_rules | `(tactic| tb_rel) => `(tactic| repeat (first
  | with_reducible assumption
  | with_reducible exact Dp.int _
  | with_reducible exact Dp.str _
  | with_reducible exact Dp.bl _
  | with_reducible exact Dp.non
  | (with_reducible apply SqT.of; with_reducible assumption)
  | (with_reducible apply SqL.of; with_reducible assumption)
  | (with_reducible apply up_dp; with_reducible assumption)
  | (with_reducible apply up_sqt; with_reducible assumption)
  | (with_reducible apply up_sql; with_reducible assumption)
  | (with_reducible apply up_get; with_reducible assumption)
  | (with_reducible apply up_pot; with_reducible assumption)
  | with_reducible exact Same.refl _
  | with_reducible exact Bu.refl _ _
  | (with_reducible apply up_same; with_reducible assumption)
  | (with_reducible apply up_bu; with_reducible assumption)
  | (with_reducible apply bu_bu; with_reducible assumption)
  | (with_reducible apply free_of; with_reducible assumption)
  | (with_reducible apply mi_fr; with_reducible assumption; (focus (tb_rel; done)))
  | (with_reducible apply mi_dp; with_reducible assumption)
  | (with_reducible apply mi_sqt; with_reducible assumption)
  | (with_reducible apply mi_sql; with_reducible assumption)
  | (with_reducible apply mi_gett; with_reducible assumption)
  | (with_reducible apply mi_getl; with_reducible assumption)
  | (with_reducible apply mi_pot; with_reducible assumption)
  | (with_reducible apply mi_refl; with_reducible assumption; (focus (with_unfolding_all exact rfl)))
  | (with_reducible apply up_mi; with_reducible assumption)
  | (with_reducible apply mi_mi; with_reducible assumption)
  | (with_reducible apply mi_bu; with_reducible assumption)
  | (with_reducible apply up_plan; with_reducible assumption)
  | (with_reducible apply bu_plan; with_reducible assumption; (focus (tb_rel; done)))
  | (with_reducible apply mi_plan; with_reducible assumption; (focus (lcg_src; done)))
  | (with_reducible apply up_bd; with_reducible assumption)
  | (with_reducible apply bd_bd; with_reducible assumption)
  | (with_reducible apply bd_same; with_reducible assumption; (focus (tb_rel; done)))
  | (with_reducible apply bd_bup; with_reducible assumption; (focus (tb_rel; done)))
  | (with_reducible apply bu_getd; with_reducible assumption; (focus (tb_rel; done)))
  | (with_reducible apply bd_dp; with_reducible assumption)
  | (with_reducible apply bd_sqt; with_reducible assumption)
  | (with_reducible apply bd_sql; with_reducible assumption)
  | (with_reducible apply bd_gett; with_reducible assumption)
  | (with_reducible apply bd_getl; with_reducible assumption)
  | (with_reducible apply bd_geti; with_reducible assumption)
  | (with_reducible apply bd_pot; with_reducible assumption)
  | (with_reducible apply pf_dp; with_reducible assumption; (focus (tb_rel; done)); (focus (lcg_src; done)))
  | (with_reducible apply bu_gett; with_reducible assumption; (focus (tb_rel; done)))
  | (with_reducible apply bu_geti; with_reducible assumption; (focus (tb_rel; done)))
  | (with_reducible apply bu_get; with_reducible assumption; (focus (tlg_ne; done)))
  | (with_reducible apply bu_sqt; with_reducible assumption; (focus (tb_rel; done)))
  | (with_reducible apply bu_sql; with_reducible assumption; (focus (tlg_ne; done)))
  | (with_reducible apply bu_dp; with_reducible assumption; (focus (tb_rel; done)); (focus (lcg_src; done)))
  | fail "up"))
local macro_rules | `(tactic| tlg_ne) => `(tactic| first
  | with_reducible assumption
  | (with_reducible apply pot_ne; with_reducible assumption; (focus (tb_rel; done)))
  | fail "ne")
local macro_rules | `(tactic| lcg_src) => `(tactic| first
  | with_reducible assumption
  | with_unfolding_all exact rfl
  | with_unfolding_all decide
  | with_unfolding_all exact Nat.ne_of_beq_eq_false rfl
  | (apply_assumption; done)
  | omega
  | (simp; done)
  | (simp; omega)
  | fail "sd")
local macro_rules | `(tactic| lcg_sub) => `(tactic| first
  | (unfold sizeLine; omega)
  | (simp only [List.length_cons, List.length_nil, List.length_append, List.length_map, List.length_replicate, List.length_take, List.length_drop]; unfold sizeLine; omega)
  | (simp; unfold sizeLine; omega)
  | fail "sz")
local macro_rules | `(tactic| nest_cls) => `(tactic| first
  | (tb_rel; done)
  | (with_reducible apply nmI; (focus (tb_rel; done)))
  | (with_reducible apply d_tup; (focus (tb_rel; done)); (focus (lsm_bools; done)))
  | (with_reducible apply d_lst; (focus (tb_rel; done)); (focus (lsm_bools; done)))
  | fail "dp")
local macro_rules | `(tactic| lsm_bools) => `(tactic| repeat (first
  | with_reducible exact DpAll.nil
  | with_reducible assumption
  | (with_reducible apply DpAll.cons; (focus (nest_cls; done)))
  | fail "dpa"))
local macro_rules | `(tactic| none_booked) => `(tactic| first | with_unfolding_all exact rfl | (with_reducible apply atI_nat; with_reducible assumption) | fail "ix")
local macro_rules | `(tactic| walk_at "go") => `(tactic| repeat (first
  | (focus (with_reducible refine go_var (v := ?_) ?_ ?_; rotate_left; (focus (with_unfolding_all exact rfl))))
  | with_reducible refine go_seq ?_
  | with_reducible refine go_cN ?_
  | with_reducible refine go_c ?_
  | with_reducible refine go_op ?_
  | with_reducible refine go_nil ?_
  | with_reducible refine go_cons ?_
  | with_reducible refine go_cb ?_
  | with_reducible refine go_call0 ?_
  | with_reducible refine go_asg ?_
  | (focus (with_reducible refine go_gname (σ' := ?_) ?_ ?_; rotate_left; (focus (simp only [List.set_cons_succ, List.set_cons_zero]; exact rfl))))
  | with_reducible refine go_par ?_
  | with_reducible refine go_par3 ?_
  | (focus (with_reducible refine go_par3k (σ' := ?_) ?_ ?_; rotate_left; (focus (simp only [List.set_cons_succ, List.set_cons_zero]; exact rfl))))
  | with_reducible refine go_bm ?_
  | (with_reducible apply go_bmL; (focus (tb_rel; done)))
  | (with_reducible apply go_fdX; (focus (with_reducible assumption; done)))
  | (with_reducible apply go_rI; (focus (with_reducible assumption; done)))
  | (focus (with_reducible refine go_par2 (σ' := ?_) ?_ ?_; rotate_left; (focus (simp only [List.set_cons_succ, List.set_cons_zero]; exact rfl))))
  | with_reducible refine go_ifs ?_
  | with_reducible refine go_test ?_
  | with_reducible refine go_tb ?_
  | with_reducible refine go_asb ?_
  | with_reducible refine go_asi ?_
  | with_reducible refine go_ret ?_
  | with_reducible refine go_retn ?_
  | with_reducible refine go_drop ?_
  | with_reducible refine go_next ?_
  | with_reducible refine go_and ?_
  | with_reducible refine go_or ?_
  | with_reducible refine go_not ?_
  | with_reducible refine go_andv ?_
  | with_reducible refine go_orv ?_
  | with_reducible refine go_notv ?_
  | with_reducible refine go_ife ?_
  | with_reducible refine go_chain ?_
  | with_reducible refine go_if1 ?_
  | with_reducible refine go_if0 ?_
  | with_reducible refine go_ifn1 ?_
  | with_reducible refine go_ifn0 ?_
  | (with_reducible apply go_ift; (focus (first | with_reducible rfl | with_reducible assumption | omega)))
  | (with_reducible apply go_ifnt; (focus (first | with_reducible rfl | with_reducible assumption | omega)))
  | (with_reducible apply go_iff; (focus (first | with_reducible assumption | omega)))
  | (with_reducible apply go_ifnf; (focus (first | with_reducible assumption | omega)))
  | with_reducible refine go_un ?_
  | with_reducible refine go_tup ?_
  | with_reducible refine go_lst ?_
  | (with_reducible apply go_newt; (focus (lcg_sub; done)); intros)
  | (with_reducible apply go_newl; (focus (lcg_sub; done)); intros)
  | with_reducible refine go_meth ?_
  | with_reducible refine go_for ?_
  | with_reducible refine go_lc ?_
  | with_reducible refine go_irng1 ?_
  | with_reducible refine go_irng2 ?_
  | with_reducible refine go_ilist ?_
  | with_reducible refine go_itup ?_
  | with_reducible refine go_izip ?_
  | with_reducible refine go_ienum ?_
  | (with_reducible apply go_rg1; (focus (lcg_src; done)))
  | (with_reducible apply go_rg2; (focus (lcg_src; done)); (focus (lcg_src; done)))
  | (with_reducible apply go_lsr; (focus (tb_rel; done)))
  | (with_reducible apply go_tpr; (focus (tb_rel; done)))
  | (with_reducible apply go_zpr; (focus (tb_rel; done)); (focus (tb_rel; done)))
  | (with_reducible apply go_zprT; (focus (tb_rel; done)); (focus (tb_rel; done)))
  | (with_reducible apply go_enrL; (focus (tb_rel; done)))
  | (with_reducible apply go_enrT; (focus (tb_rel; done)))
  | with_reducible refine go_prop ?_
  | with_reducible refine go_knr0 ?_
  | (with_reducible apply go_knr; (focus (with_unfolding_all exact rfl; done)); (focus (simp only [kSw2, kRev3, kId, List.nil_append, List.cons_append]; exact rfl)))
  | with_reducible refine go_mkn ?_
  | (with_reducible apply go_mkr; (focus (tb_rel; done)); (focus (with_unfolding_all exact rfl; done)))
  | with_reducible refine go_fld ?_
  | (with_reducible apply go_flr; (focus (tb_rel; done)); (focus (with_reducible assumption; done)); (focus (with_reducible assumption; done)); (focus (with_unfolding_all exact rfl; done)))
  | (with_reducible apply go_prr; (focus (tb_rel; done)))
  | (with_reducible apply go_mer; (focus (tb_rel; done)); (focus (with_unfolding_all exact rfl; done)))
  | with_reducible refine go_sfld ?_
  | (with_reducible apply go_sfr; (focus (tb_rel; done)); (focus (with_reducible assumption; done)); (focus (with_reducible assumption; done)); (focus (with_unfolding_all exact Nat.le_of_ble_eq_true rfl; done)); (focus (with_unfolding_all exact rfl; done)); intros)
  | with_reducible refine go_revt ?_
  | with_reducible refine go_make0 ?_
  | (focus (with_reducible refine go_aug (x := ?_) ?_ ?_; rotate_left; (focus (with_unfolding_all exact rfl))))
  | (focus (with_reducible refine go_augk (σ' := ?_) ?_ ?_; rotate_left; (focus (simp only [List.set_cons_succ, List.set_cons_zero]; exact rfl))))
  | with_reducible refine go_min2 ?_
  | with_reducible refine go_int1 ?_
  | with_reducible refine go_max2 ?_
  | with_reducible refine go_intB ?_
  | with_reducible refine go_absN ?_
  | with_reducible refine go_isN ?_
  | with_reducible refine go_notN ?_
  | (with_reducible apply go_rvt; (focus (tb_rel; done)); (focus (simp only [List.reverse_cons, List.reverse_nil, List.nil_append, List.cons_append]; exact rfl)); intros)
  | (with_reducible apply go_reprNm; (focus (tb_rel; done)); (focus (with_reducible assumption; done)))
  | (with_reducible apply go_reprPr; (focus (nest_cls; done)); (focus (lcg_src; done)); (focus (lcg_src; done)))
  | with_reducible refine go_sl ?_
  | with_reducible refine go_part ?_
  | with_reducible refine go_nopart ?_
  | (with_reducible apply go_gtup; (focus (tb_rel; done)); (focus (with_unfolding_all exact rfl; done)))
  | (with_reducible apply go_gunl; (focus (tb_rel; done)); (focus (with_unfolding_all exact rfl; done)))
  | with_reducible refine go_gcons ?_
  | with_reducible refine go_gnil ?_
  | with_reducible refine go_addN ?_
  | with_reducible refine go_ltN ?_
  | with_reducible refine go_leN ?_
  | with_reducible refine go_gtN ?_
  | with_reducible refine go_geN ?_
  | (with_reducible apply go_subN; (focus (omega; done)))
  | with_reducible refine go_rI0 ?_
  | (with_reducible apply go_mulN; (focus (omega; done)))
  | (with_reducible apply go_modN; (focus (omega; done)))
  | (with_reducible apply go_divN; (focus (omega; done)))
  | (with_reducible apply go_powN; (focus (with_unfolding_all decide; done)))
  | with_reducible refine go_rU ?_
  | with_reducible refine go_eqN ?_
  | with_reducible refine go_neN ?_
  | with_reducible refine go_isB ?_
  | with_reducible refine go_notB ?_
  | with_reducible refine go_eqS ?_
  | with_reducible refine go_neS ?_
  | with_reducible refine go_eqB ?_
  | with_reducible refine go_eqI ?_
  | with_reducible refine go_neI ?_
  | (with_reducible apply go_ixt; (focus (tb_rel; done)); (focus (none_booked; done)))
  | (with_reducible apply go_ixl; (focus (tb_rel; done)); (focus (none_booked; done)))
  | (with_reducible apply go_lent; (focus (tb_rel; done)))
  | (with_reducible apply go_lenNm; (focus (tb_rel; done)))
  | (with_reducible apply go_isiNm; (focus (tb_rel; done)))
  | (with_reducible apply go_lenl; (focus (tb_rel; done)))
  | (with_reducible apply go_catA; (focus (tb_rel; done)); (focus (tb_rel; done)); (focus (lcg_sub; done)); intros)
  | (with_reducible apply go_slaT; (focus (tb_rel; done)); intros)
  | (with_reducible apply go_slaD; (focus (tb_rel; done)); intros)
  | (with_reducible apply go_rep; (focus (tb_rel; done)); (focus (lcg_src; done)); intros)
  | (with_reducible apply go_tupofl; (focus (tb_rel; done)); intros)
  | (with_reducible apply go_sllT; (focus (tb_rel; done)); intros)
  | (with_reducible apply go_sllD; (focus (tb_rel; done)); intros)
  | (with_reducible apply go_cat; (focus (tb_rel; done)); (focus (tb_rel; done)); (focus (lcg_sub; done)); intros)
  | (with_reducible apply go_eqP; with_reducible assumption; (focus (tb_rel; done)); (focus (tb_rel; done)))
  | (with_reducible apply go_neP; with_reducible assumption; (focus (tb_rel; done)); (focus (tb_rel; done)))
  | (with_reducible apply go_mep; (focus (tb_rel; done)); (focus decide); (focus decide); (focus decide))
  | (with_reducible apply c_lparts; (focus (nest_cls; done)); (focus (lcg_src; done)); intros)
  | (with_reducible apply c_lplace; (focus (nest_cls; done)); (focus (lcg_src; done)); intros)
  | (with_reducible apply c_lprod; (focus (nest_cls; done)); (focus (lcg_src; done)); intros)
  | with_reducible refine go_dget ?_
  | with_reducible refine go_dgr2 ?_
  | with_reducible refine go_dput ?_
  | with_reducible refine go_dpr2 ?_
  | with_reducible refine go_dpt ?_
  | with_reducible refine go_pnil ?_
  | with_reducible refine go_pcons ?_
  | with_reducible refine go_gsub ?_
  | with_reducible refine go_sir ?_
  | with_reducible refine go_lrg ?_
  | with_reducible refine go_rgt2 ?_
  | with_reducible refine go_rge ?_
  | with_reducible refine go_revl ?_
  | (with_reducible apply go_dgk; (focus (tb_rel; done)); with_reducible assumption)
  | (with_reducible apply go_dpk; (focus (tb_rel; done)); (focus (lcg_sub; done)); intros)
  | (with_reducible apply go_disp; intros)
  | (with_reducible apply go_dsk2; (focus (tb_rel; done)); intros)
  | (with_reducible apply go_lrr; (focus (omega; done)); (focus (omega; done)); intros)
  | (with_reducible apply go_rvl; (focus (tb_rel; done)); intros)
  | fail "go"))
theorem ok_lprod {f : Addr} {fd : FuncData} (F : Df K "_law_product" "_law_product" s_lprod [] f fd) : FnOk P w K mg base CX0 1 f fd ["_law_row"] (sp_lprod K) := by
  refine dfOk F sc_lprod (fun vs H Q E h => ?_) (fun cdv A outer s H vs Q E hr h => ?_)
  · obtain ⟨v, r, rfl, _⟩ := h
    rfl
  · obtain ⟨v, r, rfl, hd, ok, q⟩ := h
    obtain ⟨a, xs, rfl, hs, ha⟩ := hd.lstE
    have hxl : xs.length = r.length := by rw [ha.len, List.length_map]
    refine ⟨_, (pss_cons (ps_set (i := 1) sc_lprod.nd rfl (Or.inl rfl) pe_int)
  (pss_cons (ps_for PassesOwn.never rfl (pi_list' (pv 0)) (pg_tup' 2 (pgs_cons (pg_name (i := 2) sc_lprod.nd rfl (Or.inl rfl)) (pgs_cons (pg_name (i := 3) sc_lprod.nd rfl (Or.inl rfl)) pgs_nil)))
  (pss_one (ps_set (i := 1) sc_lprod.nd rfl (Or.inl rfl) (pe_op op_mul (pv 1) (pv 3)))))
  (pss_one (ps_ret (pv 1))))), ?_⟩
    refine go_start (σ := [some _, none, none, none]) rfl ?_
    walk_at "go"
    refine forList (xs := xs) (fun i σ H' => ∃ v2 v3, σ = [some (.ref a), some (.int ((Pm.size (r.take i) : Nat) : Int)), v2, v3] ∧ H' = H) ⟨_, _, rfl, rfl⟩ (fun i σ H' h => by obtain ⟨_, _, _, rfl⟩ := h; exact hs) ?_ ?_
    · rintro i x σ H1 hi hx ⟨v2, v3, rfl, rfl⟩
      obtain ⟨d, hd1, hd2⟩ := ha.get hx
      rw [List.getElem?_map] at hd1
      obtain ⟨c, hc1, rfl⟩ := Option.map_eq_some_iff.mp hd1
      have hc := ok c (List.mem_of_getElem? hc1)
      have c4 := hc.2.2
      obtain ⟨t, rfl, ht⟩ := cut_at hd2
      walk_at "go"
      exact ⟨_, _, by rw [size_take hc1], rfl⟩
    · rintro σ H1 ⟨v2, v3, rfl, rfl⟩
      walk_at "go"
      rw [hxl, List.take_length]
      exact q
theorem ok_lparts {f : Addr} {fd : FuncData} (F : Df K "_law_parts" "_law_parts" s_lparts [] f fd) (cPd : Ca P w K mg base 1 "_law_product" (sp_lprod K) []) : FnOk P w K mg base CX0 2 f fd ["_law_row"] (sp_lparts K) := by
  refine dfOk F sc_lparts (fun vs H Q E h => ?_) (fun cdv A outer s H vs Q E hr h => ?_)
  · obtain ⟨v, r, rfl, _⟩ := h
    rfl
  · obtain ⟨v, r, rfl, hd, ok, q⟩ := h
    obtain ⟨a, xs, rfl, hs, ha⟩ := hd.lstE
    have hxl : xs.length = r.length := by rw [ha.len, List.length_map]
    have l5 := ok.2.1
    refine ⟨_, (pss_cons (ps_setLc (i := 1) (own := [("_law_axis", 3)]) (by rfl) sc_lparts.nd rfl rfl (sw_true rfl rfl rfl (by decide +kernel)) (pi_list' (pe_lst (pa_cons pe_str (pa_cons pe_str pa_nil)))) (blkOk_by (own := [("_law_axis", 3)]) (N := ["_law_row", "_law_found", "_law_cut", "_law_axis"]) (sc := defScope s_lparts) (by decide +kernel)) (fun _ _ _ _ _ => (pg_name (i := 3) sc_lparts.nd rfl (Or.inr rfl))) (fun _ _ _ _ _ => pts_nil) (fun _ _ _ _ _ => (pe_ca cPd hr (by decide) (by rfl) (pa_cons (pe_lc (own := [("_law_cut", 2)]) (by rfl) sc_lparts.nd (pi_list' (pv 0)) (blkOk_by (own := [("_law_cut", 2)]) (N := ["_law_row", "_law_found", "_law_cut", "_law_axis"]) (by kernel_rfl)) (fun _ _ _ _ _ => (pg_name (i := 2) sc_lparts.nd rfl (Or.inl rfl))) (fun _ _ _ _ _ => (pts_one (pt_cmpR op_eq (pe_ix ix_tup' (pv 2) pe_int (fun _ _ => rfl)) (pv 3) (nomark _)))) (fun _ _ _ _ _ => (pv 2))) pa_nil))))
  (pss_one (ps_ret (pe_tup (pa_cons (pe_ix ix_list' (pv 1) pe_int (fun _ _ => rfl)) (pa_cons (pe_ix ix_list' (pv 1) pe_int (fun _ _ => rfl)) pa_nil)))))), ?_⟩
    refine go_start (σ := [some _, none, none, none]) rfl ?_
    walk_at "go"
    rename_i l H1 nl s1 el
    refine lcList (K := K) (fun i => .int (Pm.wid r i : Nat)) (SqL.of el) (by show 2 ≤ 100000; decide) (fun _ _ => rfl) (fun _ => rfl) (fun i x H2 Q' hi hx s2 hq => ?_) (fun D H2 ys nD s2 eD hall => ?_)
    · have hi2 : i < 2 := hi
      obtain rfl : x = .str (axn i) := by
        rcases (by omega : i = 0 ∨ i = 1) with rfl | rfl
        · exact (Option.some.inj hx).symm
        · exact (Option.some.inj hx).symm
      have ha2 := (ha.up s1).up s2
      walk_at "go"
      refine lcFilV (K := K) (xs := xs) (r.map fun c => decide (c.1 = i)) (by rw [List.length_map]; exact hxl.symm) (by tb_rel) (by omega) (fun _ => rfl) (fun j x b H3 R hx hb s3 hR => ?_) (fun x H3 Q3 h => ?_) (fun D H3 nD s3 eD => ?_)
      · obtain ⟨d, hd1, hd2⟩ := (ha2.up s3).get hx
        rw [List.getElem?_map] at hd1 hb
        obtain ⟨c, hc1, rfl⟩ := Option.map_eq_some_iff.mp hd1
        rw [hc1] at hb
        obtain rfl := Option.some.inj hb
        obtain ⟨t, rfl, ht⟩ := cut_at hd2
        walk_at "go"
        rw [axn_dec (ok.2.2.1 c (List.mem_of_getElem? hc1)).1 hi2]
        exact hR _ (Same.refl _)
      · walk_at "go"
        exact h
      · have dD : Dp K H3 (.ref D) (pRnd (r.filter fun c => decide (c.1 = i))) := by
          refine .lst (SqL.of eD) ?_
          have := pickB_dp (r.map fun c => decide (c.1 = i)) (ha2.up s3)
          rw [pick_cuts] at this
          exact this
        have okf : CutsOk (r.filter fun c => decide (c.1 = i)) := fun c hc => ok.2.2.1 c (List.mem_filter.mp hc).1
        walk_at "go"
        rw [size_fil]
        exact hq _ _ (by tb_rel) (.int _)
    · have e : ys = [.int (Pm.wid r 0 : Nat), .int (Pm.wid r 1 : Nat)] := DpAll.intsE (is := [(Pm.wid r 0 : Nat), (Pm.wid r 1 : Nat)]) hall
      subst e
      walk_at "go"
      exact q _ _ (by tb_rel) (by assumption)
theorem ok_lplace {f : Addr} {fd : FuncData} (F : Df K "_law_place" "_law_place" s_lplace [] f fd) (B : Blt mg) : FnOk P w K mg base CX0 1 f fd ["_law_row", "_law_glyph"] (sp_lplace K) := by
  refine dfOk F sc_lplace (fun vs H Q E h => ?_) (fun cdv A outer s H vs Q E hr h => ?_)
  · obtain ⟨v, r, g, rfl, _⟩ := h
    rfl
  · obtain ⟨v, r, g, rfl, hd, ok, q⟩ := h
    obtain ⟨a, xs, rfl, hs, ha⟩ := hd.lstE
    have har := ha.rev
    rw [← List.map_reverse] at har
    have hcut : ∀ c ∈ r.reverse, Pm.CutOk c := fun c hc => ok.2.2.1 c (List.mem_reverse.mp hc)
    have l5 : r.reverse.length ≤ 5 := by rw [List.length_reverse]; exact ok.2.1
    have hxl : xs.reverse.length = r.reverse.length := by rw [har.len, List.length_map]
    generalize r.reverse = rr at *
    refine ⟨_, (pss_cons (ps_par (i := 2) (j := 3) (by rfl) sc_lplace.nd rfl rfl (by decide) rfl rfl (pa_cons (pe_lst pa_nil) (pa_cons (pe_disp (pps_cons pe_str pe_int (pps_cons pe_str pe_int pps_nil)) (by rfl) (by rfl) (fun z => by cases z) (by decide)) pa_nil)) (by rfl))
  (pss_cons (ps_for PassesOwn.never rfl (pi_list' (pe_revL' (pv 0))) (pg_tup' 2 (pgs_cons (pg_name (i := 4) sc_lplace.nd rfl (Or.inl rfl)) (pgs_cons (pg_name (i := 5) sc_lplace.nd rfl (Or.inl rfl)) pgs_nil)))
  (pss_cons (ps_asg (pe_callB call_divmodW (by rfl) B.divmod bt_divmod (pa_cons (pv 1) (pa_cons (pv 5) pa_nil))) (pg_tup' 2 (pgs_cons (pg_name (i := 1) sc_lplace.nd rfl (Or.inl rfl)) (pgs_cons (pg_name (i := 6) sc_lplace.nd rfl (Or.inl rfl)) pgs_nil))))
  (pss_one (ps_expr (pe_bm' PySem.F.plainAttrs_list PySem.F.slot_list_append PySem.F.type_list_append mt_append (pv 2) (pa_cons (pe_tup (pa_cons (pv 4) (pa_cons (pv 5) (pa_cons (pv 6) pa_nil)))) pa_nil))))))
  (pss_cons (ps_for PassesOwn.never rfl (pi_list' (pe_revL' (pv 2))) (pg_tup' 3 (pgs_cons (pg_name (i := 4) sc_lplace.nd rfl (Or.inl rfl)) (pgs_cons (pg_name (i := 5) sc_lplace.nd rfl (Or.inl rfl)) (pgs_cons (pg_name (i := 6) sc_lplace.nd rfl (Or.inl rfl)) pgs_nil))))
  (pss_one (ps_dput (units1 hr) (pv 3) (pv 4) (pe_op op_add (pe_op op_mul (pe_dget (units1 hr) (pv 3) (pv 4) (fun _ _ => rfl)) (pv 5)) (pv 6)) (by rfl))))
  (pss_one (ps_ret (pe_tup (pa_cons (pe_dget (units1 hr) (pv 3) pe_str (fun _ _ => rfl)) (pa_cons (pe_dget (units1 hr) (pv 3) pe_str (fun _ _ => rfl)) pa_nil)))))))), ?_⟩
    refine go_start (σ := [some _, some _, none, none, none, none, none]) rfl ?_
    walk_at "go"
    rename_i L H1 nL z1 eL Fd H2 nF z2 eF H3 bd3 e3 M H4 nM z4 eM
    have nF0 : H Fd = none := z1.free nF
    have hML : M ≠ L := fun z => by
      have : H3 L = some (.lst []) := by tb_rel
      rw [z, this] at nM
      cases nM
    have eL4 : H4 L = some (.lst []) := by tb_rel
    have S4 : Same H H4 := by tb_rel
    have eF4 := z4 _ _ e3
    refine forList (K := K) (xs := xs.reverse) (fun i σ H' => ∃ (si : Nat) (v4 v5 v6 : Option V) (pre : List (Pm.Cut × Nat)) (ts : List V), σ = [some (.ref a), some (.int (si : Int)), some (.ref L), some (.ref Fd), v4, v5, v6] ∧ Same H H' ∧ H' M = some (.lst xs.reverse) ∧ H' Fd = some (.dK (mergeK [] [(Sum.inr "east", V.int ((0 : Nat) : Int)), (Sum.inr "north", V.int ((0 : Nat) : Int))])) ∧ H' L = some (.lst ts) ∧ DpAll K H' ts (pre.map dDig) ∧ pre.length = i ∧ dg rr g = pre ++ dg (rr.drop i) si) ⟨g, _, _, _, [], [], rfl, S4, eM, eF4, eL4, .nil, rfl, rfl⟩ (fun i σ H' h => by obtain ⟨_, _, _, _, _, _, _, _, e, _⟩ := h; exact SqL.of e) ?_ ?_
    · rintro i x σ K1 hi hx ⟨si, v4, v5, v6, pre, ts, rfl, S1, m1, f1, l1, d1, pl, pe⟩
      clear eM eF4 eL4 e3 eF eL S4 z4 bd3 z2 z1
      obtain ⟨d, hd1, hd2⟩ := (har.up S1).get hx
      rw [List.getElem?_map] at hd1
      obtain ⟨c, hc1, rfl⟩ := Option.map_eq_some_iff.mp hd1
      have hc := hcut c (List.mem_of_getElem? hc1)
      obtain ⟨t, rfl, ht⟩ := cut_at hd2
      have c2 := hc.2.1
      have c4 := hc.2.2
      have hi' : i < rr.length := by omega
      have dr : rr.drop i = c :: rr.drop (i + 1) := by
        rw [List.drop_eq_getElem_cons hi']
        congr 1
        rw [List.getElem?_eq_getElem hi'] at hc1
        exact Option.some.inj hc1
      have lg : ((c.2 : Nat) : Int).natAbs.log2 < 9000 := by
        rw [Int.natAbs_natCast]
        exact Nat.lt_of_lt_of_le (lg_lt (n := 3) (Nat.lt_of_le_of_lt c4 (by decide)) (by decide)) (by decide)
      walk_at "go"
      refine ⟨_, _, rfl, divp_of (by omega) lg, fun p hp => ?_⟩
      have s5 : Same K1 (upd K1 p (.tup [.int ((si : Int) / (c.2 : Int)), .int ((si : Int) % (c.2 : Int))])) := same_new hp
      have e5 : upd K1 p (.tup [.int ((si : Int) / (c.2 : Int)), .int ((si : Int) % (c.2 : Int))]) p = some (.tup [.int ((si / c.2 : Nat) : Int), .int ((si % c.2 : Nat) : Int)]) := by rw [upd_same, Int.natCast_ediv, Int.natCast_emod]
      generalize upd K1 p _ = K2 at s5 e5 ⊢
      have l2 := s5 _ _ l1
      walk_at "go"
      rename_i q6 K3 n6 s6 e6
      have l3 := s6 _ _ l2
      have s16 : Same K1 K3 := s5.trans s6
      refine go_app l3 (by have := d1.len; rw [List.length_map] at this; unfold sizeLine; omega) ?_
      have bs : Bu L K3 (upd K3 L (.lst (ts ++ [V.ref q6]))) := Bu.set
      refine ⟨si / c.2, _, _, _, pre ++ [(c, si % c.2)], _, rfl, same_over (S1.trans s16) nL, bs _ _ hML (s16 _ _ m1), bs _ _ (fun z => by have := s16 _ _ f1; rw [z, l3] at this; cases this) (s16 _ _ f1), upd_same, ?_, by simp [pl], ?_⟩
      · rw [List.map_append]
        exact ((d1.up s16).bu (nl_dig _) bs l3).app (.cons ((show Dp K K3 (.ref q6) (dDig (c, si % c.2)) from .tup (SqT.of e6) (.cons (.str _) (.cons (.int _) (.cons (.int _) .nil)))).bu rfl bs l3) .nil)
      · rw [pe, dr]
        simp [dg]
    · rintro σ K1 ⟨si, v4, v5, v6, pre, ts, rfl, S1, m1, f1, l1, d1, pl, pe⟩
      rw [hxl, List.drop_length] at pe
      simp only [dg, List.append_nil] at pe
      clear eM eF4 eL4 e3 eF eL S4 z4 bd3 z2 z1
      walk_at "go"
      rename_i M2 K2 n2 s2 e2
      have hT := (d1.up s2).rev
      rw [← List.map_reverse, ← pe] at hT
      have hTl : ts.reverse.length = (dg rr g).reverse.length := by rw [hT.len, List.length_map]
      have l7 : (dg rr g).reverse.length ≤ 5 := by rw [List.length_reverse, dg_len]; exact l5
      have hfo0 := fo_dg 0 rr g
      have hfo1 := fo_dg 1 rr g
      have hmem : ∀ x ∈ (dg rr g).reverse, Pm.CutOk x.1 := fun x hx => hcut _ (dg_mem _ _ x (List.mem_reverse.mp hx))
      generalize (dg rr g).reverse = D at *
      refine forList (K := K) (xs := ts.reverse) (fun i σ H' => ∃ (v4 v5 v6 : Option V) (kvs : List (Key × V)), σ = [some (.ref a), some (.int (si : Int)), some (.ref L), some (.ref Fd), v4, v5, v6] ∧ Same H H' ∧ SqL K H' M2 ts.reverse ∧ DpAll K H' ts.reverse (D.map dDig) ∧ H' Fd = some (.dK kvs) ∧ kvs.length ≤ i + 2 ∧ valV kvs (.inr "east") = some (.int ((fo 0 (D.take i) : Nat) : Int)) ∧ valV kvs (.inr "north") = some (.int ((fo 1 (D.take i) : Nat) : Int))) ⟨_, _, _, _, rfl, S1.trans s2, SqL.of e2, hT, s2 _ _ f1, Nat.le_refl 2, rfl, rfl⟩ (fun i σ H' h => by obtain ⟨_, _, _, _, _, _, h, _⟩ := h; exact h) ?_ ?_
      · rintro i x σ K3 hi hx ⟨v4, v5, v6, kvs, rfl, S3, m3, d3, f3, kl, ke, kn⟩
        clear e2 hT f1 l1 d1 m1 s2 S1
        obtain ⟨d, hd1, hd2⟩ := d3.get hx
        rw [List.getElem?_map] at hd1
        obtain ⟨c, hc1, rfl⟩ := Option.map_eq_some_iff.mp hd1
        have hc := hmem c (List.mem_of_getElem? hc1)
        obtain ⟨t, rfl, ht⟩ := dig_at hd2
        obtain ⟨⟨ax, n⟩, dig⟩ := c
        have c4 : n ≤ 4 := hc.2.2
        have hi5 : i < 5 := by omega
        have tk : D.take (i + 1) = D.take i ++ [((ax, n), dig)] := by
          rw [List.take_add_one, hc1]
          rfl
        have w0 := fo_snoc 0 (D.take i) ((ax, n), dig)
        have w1 := fo_snoc 1 (D.take i) ((ax, n), dig)
        rw [← tk] at w0 w1
        rcases (by have : ax < 2 := hc.1; omega : ax = 0 ∨ ax = 1) with rfl | rfl
        · have ht : SqT K K3 t [.str "east", .int (n : Int), .int (dig : Int)] := ht
          rw [if_pos rfl] at w0
          rw [if_neg (show ¬ (0 : Nat) = 1 by decide)] at w1
          walk_at "go"
          rename_i K4 bd4 e4
          refine ⟨_, _, _, _, rfl, by tb_rel, by tb_rel, bd_dpa bd4 d3, e4, ?_, ?_, ?_⟩
          · have := putK_len kvs (.inr "east") (.int ((fo 0 (D.take i) * n + dig : Nat) : Int))
            omega
          · rw [valV_put, if_pos rfl, w0]
          · rw [valV_put, if_neg (by decide), w1]
            exact kn
        · have ht : SqT K K3 t [.str "north", .int (n : Int), .int (dig : Int)] := ht
          rw [if_pos rfl] at w1
          rw [if_neg (show ¬ (1 : Nat) = 0 by decide)] at w0
          walk_at "go"
          rename_i K4 bd4 e4
          refine ⟨_, _, _, _, rfl, by tb_rel, by tb_rel, bd_dpa bd4 d3, e4, ?_, ?_, ?_⟩
          · have := putK_len kvs (.inr "north") (.int ((fo 1 (D.take i) * n + dig : Nat) : Int))
            omega
          · rw [valV_put, if_neg (by decide), w0]
            exact ke
          · rw [valV_put, if_pos rfl, w1]
      · rintro σ K3 ⟨v4, v5, v6, kvs, rfl, S3, m3, d3, f3, kl, ke, kn⟩
        rw [hTl, List.take_length] at ke kn
        rw [hfo0] at ke
        rw [hfo1] at kn
        walk_at "go"
        exact q _ _ (by tb_rel) (by assumption)
end
end T
set_option Elab.async false
set_option maxRecDepth 100000
set_option maxHeartbeats 4000000
namespace T
open PySem L2 Mv
abbrev s_mixed : Stmt := top 39
theorem sc_mixed : FnScope ["_law_pot_here", "_law_some", "_law_pack", "_law_turn"] ["_law_pot_here", "_law_some"] (defScope s_mixed) := ⟨rfl, rfl, rfl, by decide +kernel, rfl, by decide +kernel, by decide +kernel⟩
abbrev s_lplan : Stmt := top 42
theorem sc_lplan : FnScope ["_law_rows"] ["_law_rows"] (defScope s_lplan) := ⟨rfl, rfl, rfl, by decide +kernel, rfl, by decide +kernel, by decide +kernel⟩
section
variable {P : Program} {w : World} {K : PySem.W.Frag} {mg : Str → Option Value} {base : Heap} {C AX : Addr}
theorem six {d n : Nat} (h : d < n) : seqIndex? (d : Int) n = some d := by
  unfold seqIndex?
  simp only
  rw [if_neg (by omega : ¬ (d : Int) < 0)]
  simp
  omega
theorem perm_erase {α : Type} : ∀ (l : List α) (d : Nat) (x : α), l[d]? = some x → (x :: l.eraseIdx d).Perm l
  | [], d, x, h => by simp at h
  | y :: l, 0, x, h => by
    obtain rfl : y = x := by simpa using h
    exact List.Perm.refl _
  | y :: l, d + 1, x, h => by
    have := perm_erase l d x (by simpa using h)
    simp only [List.eraseIdx_cons_succ]
    exact (List.Perm.swap y x _).trans (List.Perm.cons y this)
def sp_mixed (K : PySem.W.Frag) : Sp := fun vs H Q _ => ∃ (p : Addr) (v : V) (ds : List PyData), vs = [.ref p, v] ∧ Pot H p ∧ Dp K H v (.list ds) ∧ NLs ds = true ∧ ds.length ≤ 1000 ∧
  ∀ (l : Addr) (zs : List V) (es : List PyData) (H' : Hp), es.Perm ds → H l = none → H' l = some (.lst zs) → DpAll K H' zs es → Pot H' p → Bu p H H' → Q (.ref l) H'
theorem c_mixed {K : PySem.W.Frag} {p : Addr} {v : V} {ds : List PyData} {H : Hp} {Q : VK} {E : XK} (h0 : Pot H p) (h1 : Dp K H v (.list ds)) (h2 : NLs ds = true) (h3 : ds.length ≤ 1000) (q : ∀ (l : Addr) (zs : List V) (es : List PyData) (H' : Hp), es.Perm ds → H l = none → H' l = some (.lst zs) → DpAll K H' zs es → Pot H' p → Bu p H H' → Q (.ref l) H') : sp_mixed K [.ref p, v] H Q E := ⟨_, _, _, rfl, h0, h1, h2, h3, q⟩
def sp_lplan (K : PySem.W.Frag) (C : Addr) : Sp := fun vs H Q _ => ∃ (v : V) (brs : List (Bool × List Pm.Cut)), vs = [v] ∧ Dp K H v (.list (pPass brs)) ∧ Pm.RdsOk (brs.map Prod.snd) ∧ ∀ u H', Same H H' → PlanAt K C H' u (brs.map Prod.snd) → Q u H'
theorem c_lplan {K : PySem.W.Frag} {C : Addr} {v : V} {brs : List (Bool × List Pm.Cut)} {H : Hp} {Q : VK} {E : XK} (h0 : Dp K H v (.list (pPass brs))) (h1 : Pm.RdsOk (brs.map Prod.snd)) (q : ∀ u H', Same H H' → PlanAt K C H' u (brs.map Prod.snd) → Q u H') : sp_lplan K C [v] H Q E := ⟨_, _, rfl, h0, h1, q⟩
local macro_rules | `(tactic| tb_rel) => `(tactic| repeat (first
  | with_reducible assumption
  | with_reducible exact Dp.int _
  | with_reducible exact Dp.str _
  | with_reducible exact Dp.bl _
  | with_reducible exact Dp.non
  | (with_reducible apply SqT.of; with_reducible assumption)
  | (with_reducible apply SqL.of; with_reducible assumption)
  | (with_reducible apply up_dp; with_reducible assumption)
  | (with_reducible apply up_sqt; with_reducible assumption)
  | (with_reducible apply up_sql; with_reducible assumption)
  | (with_reducible apply up_get; with_reducible assumption)
  | (with_reducible apply up_pot; with_reducible assumption)
  | with_reducible exact Same.refl _
  | with_reducible exact Bu.refl _ _
  | (with_reducible apply up_same; with_reducible assumption)
  | (with_reducible apply up_bu; with_reducible assumption)
  | (with_reducible apply bu_bu; with_reducible assumption)
  | (with_reducible apply free_of; with_reducible assumption)
  | (with_reducible apply mi_fr; with_reducible assumption; (focus (tb_rel; done)))
  | (with_reducible apply mi_dp; with_reducible assumption)
  | (with_reducible apply mi_sqt; with_reducible assumption)
  | (with_reducible apply mi_sql; with_reducible assumption)
  | (with_reducible apply mi_gett; with_reducible assumption)
  | (with_reducible apply mi_getl; with_reducible assumption)
  | (with_reducible apply mi_pot; with_reducible assumption)
  | (with_reducible apply mi_refl; with_reducible assumption; (focus (with_unfolding_all exact rfl)))
  | (with_reducible apply up_mi; with_reducible assumption)
  | (with_reducible apply mi_mi; with_reducible assumption)
  | (with_reducible apply mi_bu; with_reducible assumption)
  | (with_reducible apply up_plan; with_reducible assumption)
  | (with_reducible apply bu_plan; with_reducible assumption; (focus (tb_rel; done)))
  | (with_reducible apply mi_plan; with_reducible assumption; (focus (lcg_src; done)))
  | (with_reducible apply up_bd; with_reducible assumption)
  | (with_reducible apply bd_bd; with_reducible assumption)
  | (with_reducible apply bd_same; with_reducible assumption; (focus (tb_rel; done)))
  | (with_reducible apply bd_bup; with_reducible assumption; (focus (tb_rel; done)))
  | (with_reducible apply bu_getd; with_reducible assumption; (focus (tb_rel; done)))
  | (with_reducible apply bd_dp; with_reducible assumption)
  | (with_reducible apply bd_sqt; with_reducible assumption)
  | (with_reducible apply bd_sql; with_reducible assumption)
  | (with_reducible apply bd_gett; with_reducible assumption)
  | (with_reducible apply bd_getl; with_reducible assumption)
  | (with_reducible apply bd_geti; with_reducible assumption)
  | (with_reducible apply bd_pot; with_reducible assumption)
  | (with_reducible apply pf_dp; with_reducible assumption; (focus (tb_rel; done)); (focus (lcg_src; done)))
  | (with_reducible apply bu_gett; with_reducible assumption; (focus (tb_rel; done)))
  | (with_reducible apply bu_geti; with_reducible assumption; (focus (tb_rel; done)))
  | (with_reducible apply bu_get; with_reducible assumption; (focus (tlg_ne; done)))
  | (with_reducible apply bu_sqt; with_reducible assumption; (focus (tb_rel; done)))
  | (with_reducible apply bu_sql; with_reducible assumption; (focus (tlg_ne; done)))
  | (with_reducible apply bu_dp; with_reducible assumption; (focus (tb_rel; done)); (focus (lcg_src; done)))
  | fail "up"))
local macro_rules | `(tactic| tlg_ne) => `(tactic| first
  | with_reducible assumption
  | (with_reducible apply pot_ne; with_reducible assumption; (focus (tb_rel; done)))
  | fail "ne")
local macro_rules | `(tactic| lcg_src) => `(tactic| first
  | with_reducible assumption
  | with_unfolding_all exact rfl
  | with_unfolding_all decide
  | with_unfolding_all exact Nat.ne_of_beq_eq_false rfl
  | (apply_assumption; done)
  | omega
  | (simp; done)
  | (simp; omega)
  | fail "sd")
local macro_rules | `(tactic| lcg_sub) => `(tactic| first
  | (unfold sizeLine; omega)
  | (simp only [List.length_cons, List.length_nil, List.length_append, List.length_map, List.length_replicate, List.length_take, List.length_drop]; unfold sizeLine; omega)
  | (simp; unfold sizeLine; omega)
  | fail "sz")
local macro_rules | `(tactic| nest_cls) => `(tactic| first
  | (tb_rel; done)
  | (with_reducible apply nmI; (focus (tb_rel; done)))
  | (with_reducible apply d_tup; (focus (tb_rel; done)); (focus (lsm_bools; done)))
  | (with_reducible apply d_lst; (focus (tb_rel; done)); (focus (lsm_bools; done)))
  | fail "dp")
local macro_rules | `(tactic| lsm_bools) => `(tactic| repeat (first
  | with_reducible exact DpAll.nil
  | with_reducible assumption
  | (with_reducible apply DpAll.cons; (focus (nest_cls; done)))
  | fail "dpa"))
local macro_rules | `(tactic| none_booked) => `(tactic| first | with_unfolding_all exact rfl | (with_reducible apply atI_nat; with_reducible assumption) | fail "ix")
local macro_rules | `(tactic| walk_at "go") => `(tactic| repeat (first
  | (focus (with_reducible refine go_var (v := ?_) ?_ ?_; rotate_left; (focus (with_unfolding_all exact rfl))))
  | with_reducible refine go_seq ?_
  | with_reducible refine go_cN ?_
  | with_reducible refine go_c ?_
  | with_reducible refine go_op ?_
  | with_reducible refine go_nil ?_
  | with_reducible refine go_cons ?_
  | with_reducible refine go_cb ?_
  | with_reducible refine go_call0 ?_
  | with_reducible refine go_asg ?_
  | (focus (with_reducible refine go_gname (σ' := ?_) ?_ ?_; rotate_left; (focus (simp only [List.set_cons_succ, List.set_cons_zero]; exact rfl))))
  | with_reducible refine go_par ?_
  | with_reducible refine go_par3 ?_
  | (focus (with_reducible refine go_par3k (σ' := ?_) ?_ ?_; rotate_left; (focus (simp only [List.set_cons_succ, List.set_cons_zero]; exact rfl))))
  | with_reducible refine go_bm ?_
  | (with_reducible apply go_bmL; (focus (tb_rel; done)))
  | (with_reducible apply go_fdX; (focus (with_reducible assumption; done)))
  | (with_reducible apply go_rI; (focus (with_reducible assumption; done)))
  | (focus (with_reducible refine go_par2 (σ' := ?_) ?_ ?_; rotate_left; (focus (simp only [List.set_cons_succ, List.set_cons_zero]; exact rfl))))
  | with_reducible refine go_ifs ?_
  | with_reducible refine go_test ?_
  | with_reducible refine go_tb ?_
  | with_reducible refine go_asb ?_
  | with_reducible refine go_asi ?_
  | with_reducible refine go_ret ?_
  | with_reducible refine go_retn ?_
  | with_reducible refine go_drop ?_
  | with_reducible refine go_next ?_
  | with_reducible refine go_and ?_
  | with_reducible refine go_or ?_
  | with_reducible refine go_not ?_
  | with_reducible refine go_andv ?_
  | with_reducible refine go_orv ?_
  | with_reducible refine go_notv ?_
  | with_reducible refine go_ife ?_
  | with_reducible refine go_chain ?_
  | with_reducible refine go_if1 ?_
  | with_reducible refine go_if0 ?_
  | with_reducible refine go_ifn1 ?_
  | with_reducible refine go_ifn0 ?_
  | (with_reducible apply go_ift; (focus (first | with_reducible rfl | with_reducible assumption | omega)))
  | (with_reducible apply go_ifnt; (focus (first | with_reducible rfl | with_reducible assumption | omega)))
  | (with_reducible apply go_iff; (focus (first | with_reducible assumption | omega)))
  | (with_reducible apply go_ifnf; (focus (first | with_reducible assumption | omega)))
  | with_reducible refine go_un ?_
  | with_reducible refine go_tup ?_
  | with_reducible refine go_lst ?_
  | (with_reducible apply go_newt; (focus (lcg_sub; done)); intros)
  | (with_reducible apply go_newl; (focus (lcg_sub; done)); intros)
  | with_reducible refine go_meth ?_
  | with_reducible refine go_for ?_
  | with_reducible refine go_lc ?_
  | with_reducible refine go_irng1 ?_
  | with_reducible refine go_irng2 ?_
  | with_reducible refine go_ilist ?_
  | with_reducible refine go_itup ?_
  | with_reducible refine go_izip ?_
  | with_reducible refine go_ienum ?_
  | (with_reducible apply go_rg1; (focus (lcg_src; done)))
  | (with_reducible apply go_rg2; (focus (lcg_src; done)); (focus (lcg_src; done)))
  | (with_reducible apply go_lsr; (focus (tb_rel; done)))
  | (with_reducible apply go_tpr; (focus (tb_rel; done)))
  | (with_reducible apply go_zpr; (focus (tb_rel; done)); (focus (tb_rel; done)))
  | (with_reducible apply go_zprT; (focus (tb_rel; done)); (focus (tb_rel; done)))
  | (with_reducible apply go_enrL; (focus (tb_rel; done)))
  | (with_reducible apply go_enrT; (focus (tb_rel; done)))
  | with_reducible refine go_prop ?_
  | with_reducible refine go_knr0 ?_
  | (with_reducible apply go_knr; (focus (with_unfolding_all exact rfl; done)); (focus (simp only [kSw2, kRev3, kId, List.nil_append, List.cons_append]; exact rfl)))
  | with_reducible refine go_mkn ?_
  | (with_reducible apply go_mkr; (focus (tb_rel; done)); (focus (with_unfolding_all exact rfl; done)))
  | with_reducible refine go_fld ?_
  | (with_reducible apply go_flr; (focus (tb_rel; done)); (focus (with_reducible assumption; done)); (focus (with_reducible assumption; done)); (focus (with_unfolding_all exact rfl; done)))
  | (with_reducible apply go_prr; (focus (tb_rel; done)))
  | (with_reducible apply go_mer; (focus (tb_rel; done)); (focus (with_unfolding_all exact rfl; done)))
  | with_reducible refine go_sfld ?_
  | (with_reducible apply go_sfr; (focus (tb_rel; done)); (focus (with_reducible assumption; done)); (focus (with_reducible assumption; done)); (focus (with_unfolding_all exact Nat.le_of_ble_eq_true rfl; done)); (focus (with_unfolding_all exact rfl; done)); intros)
  | with_reducible refine go_revt ?_
  | with_reducible refine go_make0 ?_
  | (focus (with_reducible refine go_aug (x := ?_) ?_ ?_; rotate_left; (focus (with_unfolding_all exact rfl))))
  | (focus (with_reducible refine go_augk (σ' := ?_) ?_ ?_; rotate_left; (focus (simp only [List.set_cons_succ, List.set_cons_zero]; exact rfl))))
  | with_reducible refine go_min2 ?_
  | with_reducible refine go_int1 ?_
  | with_reducible refine go_max2 ?_
  | with_reducible refine go_intB ?_
  | with_reducible refine go_absN ?_
  | with_reducible refine go_isN ?_
  | with_reducible refine go_notN ?_
  | (with_reducible apply go_rvt; (focus (tb_rel; done)); (focus (simp only [List.reverse_cons, List.reverse_nil, List.nil_append, List.cons_append]; exact rfl)); intros)
  | (with_reducible apply go_reprNm; (focus (tb_rel; done)); (focus (with_reducible assumption; done)))
  | (with_reducible apply go_reprPr; (focus (nest_cls; done)); (focus (lcg_src; done)); (focus (lcg_src; done)))
  | with_reducible refine go_sl ?_
  | with_reducible refine go_part ?_
  | with_reducible refine go_nopart ?_
  | (with_reducible apply go_gtup; (focus (tb_rel; done)); (focus (with_unfolding_all exact rfl; done)))
  | (with_reducible apply go_gunl; (focus (tb_rel; done)); (focus (with_unfolding_all exact rfl; done)))
  | with_reducible refine go_gcons ?_
  | with_reducible refine go_gnil ?_
  | with_reducible refine go_addN ?_
  | with_reducible refine go_ltN ?_
  | with_reducible refine go_leN ?_
  | with_reducible refine go_gtN ?_
  | with_reducible refine go_geN ?_
  | (with_reducible apply go_subN; (focus (omega; done)))
  | with_reducible refine go_rI0 ?_
  | (with_reducible apply go_mulN; (focus (omega; done)))
  | (with_reducible apply go_modN; (focus (omega; done)))
  | (with_reducible apply go_divN; (focus (omega; done)))
  | (with_reducible apply go_powN; (focus (with_unfolding_all decide; done)))
  | with_reducible refine go_rU ?_
  | with_reducible refine go_eqN ?_
  | with_reducible refine go_neN ?_
  | with_reducible refine go_isB ?_
  | with_reducible refine go_notB ?_
  | with_reducible refine go_eqS ?_
  | with_reducible refine go_neS ?_
  | with_reducible refine go_eqB ?_
  | with_reducible refine go_eqI ?_
  | with_reducible refine go_neI ?_
  | (with_reducible apply go_ixt; (focus (tb_rel; done)); (focus (none_booked; done)))
  | (with_reducible apply go_ixl; (focus (tb_rel; done)); (focus (none_booked; done)))
  | (with_reducible apply go_lent; (focus (tb_rel; done)))
  | (with_reducible apply go_lenNm; (focus (tb_rel; done)))
  | (with_reducible apply go_isiNm; (focus (tb_rel; done)))
  | (with_reducible apply go_lenl; (focus (tb_rel; done)))
  | (with_reducible apply go_catA; (focus (tb_rel; done)); (focus (tb_rel; done)); (focus (lcg_sub; done)); intros)
  | (with_reducible apply go_slaT; (focus (tb_rel; done)); intros)
  | (with_reducible apply go_slaD; (focus (tb_rel; done)); intros)
  | (with_reducible apply go_rep; (focus (tb_rel; done)); (focus (lcg_src; done)); intros)
  | (with_reducible apply go_tupofl; (focus (tb_rel; done)); intros)
  | (with_reducible apply go_sllT; (focus (tb_rel; done)); intros)
  | (with_reducible apply go_sllD; (focus (tb_rel; done)); intros)
  | (with_reducible apply go_cat; (focus (tb_rel; done)); (focus (tb_rel; done)); (focus (lcg_sub; done)); intros)
  | (with_reducible apply go_eqP; with_reducible assumption; (focus (tb_rel; done)); (focus (tb_rel; done)))
  | (with_reducible apply go_neP; with_reducible assumption; (focus (tb_rel; done)); (focus (tb_rel; done)))
  | (with_reducible apply go_mep; (focus (tb_rel; done)); (focus decide); (focus decide); (focus decide))
  | (with_reducible apply c_drawN; (focus (tb_rel; done)); (focus (lcg_src; done)); (focus (lcg_src; done)); intros)
  | (with_reducible apply c_lplan; (focus (nest_cls; done)); (focus (lcg_src; done)); intros)
  | (with_reducible apply c_mixed; (focus (tb_rel; done)); (focus (nest_cls; done)); (focus (lcg_src; done)); (focus (lcg_src; done)); intros)
  | with_reducible refine go_dget ?_
  | with_reducible refine go_dgr2 ?_
  | with_reducible refine go_dput ?_
  | with_reducible refine go_dpr2 ?_
  | with_reducible refine go_dpt ?_
  | with_reducible refine go_pnil ?_
  | with_reducible refine go_pcons ?_
  | with_reducible refine go_gsub ?_
  | with_reducible refine go_sir ?_
  | with_reducible refine go_lrg ?_
  | with_reducible refine go_rgt2 ?_
  | with_reducible refine go_rge ?_
  | with_reducible refine go_revl ?_
  | (with_reducible apply go_dgk; (focus (tb_rel; done)); with_reducible assumption)
  | (with_reducible apply go_dpk; (focus (tb_rel; done)); (focus (lcg_sub; done)); intros)
  | (with_reducible apply go_disp; intros)
  | (with_reducible apply go_dsk2; (focus (tb_rel; done)); intros)
  | (with_reducible apply go_lrr; (focus (omega; done)); (focus (omega; done)); intros)
  | (with_reducible apply go_rvl; (focus (tb_rel; done)); intros)
  | with_reducible refine go_cv ?_
  | with_reducible refine go_cvr ?_
  | with_reducible refine go_mkr1 ?_
  | with_reducible refine go_cma ?_
  | with_reducible refine go_cmk ?_
  | with_reducible refine go_cmr ?_
  | with_reducible refine go_ckr ?_
  | (with_reducible apply go_mkL; (focus (with_unfolding_all exact rfl)))
  | (with_reducible apply go_cmv; (focus (with_unfolding_all exact rfl)); (focus (simp only [gApp, kId, List.nil_append, List.cons_append, List.append_nil]; exact rfl)))
  | (with_reducible apply go_ckv; (focus (with_unfolding_all exact rfl)); (focus (simp only [gApp, kId, List.nil_append, List.cons_append, List.append_nil]; exact rfl)))
  | fail "go"))
theorem ok_lplan {f : Addr} {fd : FuncData} (F : Df K "_law_plan" "_law_plan" s_lplan [] f fd) (B : Blt mg) (cPl : MaR P w K mg base 6 "Plan" C (spMk K C)) : FnOk P w K mg base CX0 8 f fd ["_law_rows"] (sp_lplan K C) := by
  refine dfOk F sc_lplan (fun vs H Q E h => ?_) (fun cdv A outer s H vs Q E hr h => ?_)
  · obtain ⟨v, brs, rfl, _⟩ := h
    rfl
  · obtain ⟨v, brs, rfl, hd, ok, q⟩ := h
    obtain ⟨a, ys, rfl, hs, ha⟩ := hd.lstE
    have hyl : ys.length = (brs.map Prod.snd).length := by rw [ha.len, List.length_map]; unfold pPass; rw [List.length_map]
    have l1 := ok.1
    have l3 := ok.2.1
    have mk : ∀ vs, vs = ys → MkR1 C (spMk K C) E0 Q vs H := fun vs e => mk_plan (e ▸ ha) ok fun u H' s' pa => q u H' s' pa
    refine ⟨_, (pss_cons (ps_if (pt_cmpR op_eq (pe_callB call_len_seq' (by rfl) B.len bt_len (pa_cons (pv 0) pa_nil)) pe_int (nomark _))
  (pss_one (ps_ret (pe_mar cPl hr (by decide) (by rfl) (pa_cons (pe_ix ix_list' (pv 0) pe_int (fun _ _ => rfl)) pa_nil))))
  pss_nil)
  (pss_one (ps_ret (pe_ifExp (pt_cmpR op_eq (pe_callB call_len_seq' (by rfl) B.len bt_len (pa_cons (pv 0) pa_nil)) pe_int (nomark _)) (pe_mar cPl hr (by decide) (by rfl) (pa_cons (pe_ix ix_list' (pv 0) pe_int (fun _ _ => rfl)) (pa_cons (pe_ix ix_list' (pv 0) pe_int (fun _ _ => rfl)) pa_nil))) (pe_mar cPl hr (by decide) (by rfl) (pa_cons (pe_ix ix_list' (pv 0) pe_int (fun _ _ => rfl)) (pa_cons (pe_ix ix_list' (pv 0) pe_int (fun _ _ => rfl)) (pa_cons (pe_ix ix_list' (pv 0) pe_int (fun _ _ => rfl)) pa_nil)))))))), ?_⟩
    refine go_start (σ := [some _]) rfl ?_
    walk_at "go"
    match ys, hyl, mk, hs with
    | [], hyl, _, _ =>
      rw [← hyl] at l1
      exact absurd l1 (by decide)
    | [x0], _, mk, hs =>
      have h1 : [x0].length = 1 := rfl
      walk_at "go"
      exact mk _ rfl
    | [x0, x1], _, mk, hs =>
      have h1 : ¬ [x0, x1].length = 1 := fun z => by cases z
      have h2 : [x0, x1].length = 2 := rfl
      walk_at "go"
      exact mk _ rfl
    | [x0, x1, x2], _, mk, hs =>
      have h1 : ¬ [x0, x1, x2].length = 1 := fun z => by cases z
      have h2 : ¬ [x0, x1, x2].length = 2 := fun z => by cases z
      walk_at "go"
      exact mk _ rfl
    | _ :: _ :: _ :: _ :: _, hyl, _, _ =>
      rw [← hyl] at l3
      exact absurd l3 (by simp)
theorem ok_mixed {f : Addr} {fd : FuncData} (F : Df K "_law_mixed" "_law_mixed" s_mixed [] f fd) (B : Blt mg) (cDr : Ca P w K mg base 1 "_law_draw" sp_draw []) : FnOk P w K mg base CX0 2 f fd ["_law_pot_here", "_law_some"] (sp_mixed K) := by
  refine dfOk F sc_mixed (fun vs H Q E h => ?_) (fun cdv A outer s H vs Q E hr h => ?_)
  · obtain ⟨p, v, ds, rfl, _⟩ := h
    rfl
  · obtain ⟨p, v, ds, rfl, hp, hd, hnl, hlen, q⟩ := h
    obtain ⟨a, xs, rfl, hs, ha⟩ := hd.lstE
    have hxl := ha.len
    refine ⟨_, (pss_cons (ps_set (i := 2) sc_mixed.nd rfl (Or.inr rfl) (pe_callTy call_list_of' (by rfl) B.list bt_list (pa_cons (pv 1) pa_nil)))
  (pss_one (ps_ret (pe_lc (own := [("_law_turn", 3)]) (by rfl) sc_mixed.nd (pi_range1 (by rfl) B.range (pa_cons (pe_callB call_len_seq' (by rfl) B.len bt_len (pa_cons (pv 1) pa_nil)) pa_nil)) (blkOk_by (own := [("_law_turn", 3)]) (N := ["_law_pot_here", "_law_some", "_law_pack", "_law_turn"]) (sc := defScope s_mixed) (by decide +kernel)) (fun _ _ _ _ _ => (pg_name (i := 3) sc_mixed.nd rfl (Or.inl rfl))) (fun _ _ _ _ _ => pts_nil) (fun _ _ _ _ _ => (pe_bm' PySem.F.plainAttrs_list PySem.F.slot_list_pop PySem.F.type_list_pop mt_popAt (pv 2) (pa_cons (pe_ca cDr hr (by decide) (by rfl) (pa_cons (pv 0) (pa_cons (pe_callB call_len_seq' (by rfl) B.len bt_len (pa_cons (pv 2) pa_nil)) pa_nil))) pa_nil))))))), ?_⟩
    refine go_start (σ := [some _, some _, none, none]) rfl ?_
    walk_at "go"
    refine go_lstof (.inl hs) ?_
    intro Pk H1 nP s1 eP
    walk_at "go"
    intro D hD
    have hPp : Pk ≠ p := hp.ne nP
    have hDp : D ≠ p := (hp.same s1).ne hD
    have hPD : Pk ≠ D := fun z => by rw [← z, eP] at hD; cases hD
    have hD0 : H D = none := s1.free hD
    refine lc_it walk_range (fun i H' => Pot H' p ∧ Bu p H H' ∧ ∃ xs ys ds1 es1, H' Pk = some (.lst xs) ∧ H' D = some (.lst ys) ∧ DpAll K H' xs ds1 ∧ DpAll K H' ys es1 ∧ (es1 ++ ds1).Perm ds ∧ es1.length = i) ⟨(hp.same s1).upd hDp, fun c o nc e => by rw [upd_ne (ne_of_none e hD0)]; exact s1 c o e, xs, [], ds, [], by rw [upd_ne hPD]; exact eP, upd_same, (ha.up s1).up (same_new hD), .nil, List.Perm.refl _, rfl⟩ (fun _ _ _ _ => trivial) ?_ ?_
    · rintro i x H2 H3 hi ⟨p2, b2, xs2, ys2, ds1, es1, eP2, eD2, dx, dy, pm, hl⟩ ⟨rfl, rfl⟩
      refine ⟨rfl, ?_⟩
      have hlen2 : es1.length + ds1.length = ds.length := by rw [← List.length_append]; exact pm.length_eq
      have dxl := dx.len
      have dyl := dy.len
      have hpos : 0 < xs2.length := by omega
      have h1000 : xs2.length ≤ 1000 := by omega
      have n1 : NLs ds1 = true := NLs.of fun d hd => NLs.mem hnl d (pm.mem_iff.mp (List.mem_append_right _ hd))
      have n2 : NLs es1 = true := NLs.of fun d hd => NLs.mem hnl d (pm.mem_iff.mp (List.mem_append_left _ hd))
      clear hs ha hd
      refine go_yes ?_
      walk_at "go"
      rename_i d H4 ld p4 b4
      have eP4 := b4 _ _ hPp eP2
      have eD4 := b4 _ _ hDp eD2
      obtain ⟨ws, ew⟩ := p2.lst
      have dx4 := dx.bu n1 b4 ew
      have dy4 := dy.bu n2 b4 ew
      obtain ⟨dd, hdd, hdp⟩ := dx4.get (List.getElem?_eq_getElem ld)
      have ndd := NLs.mem n1 dd (List.mem_of_getElem? hdd)
      refine ⟨Pk, xs2, _, d, xs2[d], rfl, rfl, eP4, by omega, by omega, six ld, List.getElem?_eq_getElem ld, ?_⟩
      have b5 : Bu Pk H4 (upd H4 Pk (.lst (xs2.eraseIdx d))) := Bu.set
      have eD5 := b5 _ _ hPD.symm eD4
      have b6 : Bu D (upd H4 Pk (.lst (xs2.eraseIdx d))) (upd (upd H4 Pk (.lst (xs2.eraseIdx d))) D (.lst (ys2 ++ [xs2[d]]))) := Bu.set
      have n1' : NLs (ds1.eraseIdx d) = true := NLs.of fun z hz => NLs.mem n1 z (List.mem_of_mem_eraseIdx hz)
      refine ⟨ys2, eD5, by unfold sizeLine; omega, (p4.upd hPp).upd hDp, fun c o nc e => ?_, xs2.eraseIdx d, ys2 ++ [xs2[d]], ds1.eraseIdx d, es1 ++ [dd], ?_, upd_same, ((dx4.bu n1 b5 eP4).erase d).bu n1' b6 eD5, ((dy4.bu n2 b5 eP4).bu n2 b6 eD5).app (.cons ((hdp.bu ndd b5 eP4).bu ndd b6 eD5) .nil), ?_, by simp [hl]⟩
      · rw [upd_ne (ne_of_none e hD0), upd_ne (ne_of_none e nP)]
        exact (b2.trans b4) c o nc e
      · rw [upd_ne hPD, upd_same]
      · refine List.Perm.trans ?_ pm
        rw [List.append_assoc]
        exact List.Perm.append_left es1 (perm_erase ds1 d dd hdd)
    · rintro H2 ⟨p2, b2, xs2, ys2, ds1, es1, eP2, eD2, dx, dy, pm, hl⟩
      have hlen2 : es1.length + ds1.length = ds.length := by rw [← List.length_append]; exact pm.length_eq
      have : ds1 = [] := List.eq_nil_of_length_eq_zero (by omega)
      subst this
      rw [List.append_nil] at pm
      walk_at "go"
      exact q D ys2 es1 H2 pm hD0 eD2 dy p2 b2
end
end T
set_option Elab.async false
set_option maxRecDepth 100000
set_option maxHeartbeats 4000000
namespace T
open PySem L2 Mv
abbrev s_rounds : Stmt := top 41
theorem sc_rounds : FnScope ["_law_pot_here", "_law_rows", "_law_pieces", "_law_others_here", "_law_k", "_law_turn", "_law_one", "_law_axes", "_law_cuts", "_law_cut", "_law_room", "_law_row", "_law_near"] ["_law_pot_here"] (defScope s_rounds) := ⟨rfl, rfl, rfl, by decide +kernel, rfl, by decide +kernel, by decide +kernel⟩
section
variable {P : Program} {w : World} {K : PySem.W.Frag} {mg : Str → Option Value} {base : Heap} {C AX : Addr}
/-- rows: lists of cuts -/
structure RowsAt (K : PySem.W.Frag) (H : Hp) (D : Addr) (qs : List Addr) (rr : List (List Pm.Cut)) : Prop where
  at_ : H D = some (.lst (qs.map V.ref))
  len : qs.length = rr.length
  row : ∀ (j : Nat) q r, qs[j]? = some q → rr[j]? = some r → ∃ zs, H q = some (.lst zs) ∧ DpAll K H zs (r.map pCut)
theorem RowsAt.same {H H' : Hp} {D : Addr} {qs : List Addr} {rr : List (List Pm.Cut)} (h : RowsAt K H D qs rr) (s : Same H H') : RowsAt K H' D qs rr :=
  ⟨s _ _ h.at_, h.len, fun j q r h1 h2 => by obtain ⟨zs, e, d⟩ := h.row j q r h1 h2; exact ⟨zs, s _ _ e, d.up s⟩⟩
theorem RowsAt.bu {H H' : Hp} {D x : Addr} {qs : List Addr} {rr : List (List Pm.Cut)} {ws : List V} (h : RowsAt K H D qs rr) (b : Bu x H H') (hx : H x = some (.lst ws)) (n1 : D ≠ x) (n2 : x ∉ qs) : RowsAt K H' D qs rr :=
  ⟨b _ _ n1 h.at_, h.len, fun j q r h1 h2 => by obtain ⟨zs, e, d⟩ := h.row j q r h1 h2; exact ⟨zs, b _ _ (fun z => n2 (z ▸ List.mem_of_getElem? h1)) e, d.bu (nl_cuts _) b hx⟩⟩
theorem RowsAt.app {H : Hp} {D q : Addr} {qs : List Addr} {rr : List (List Pm.Cut)} {zs : List V} {j : Nat} {r : List Pm.Cut} {c : Pm.Cut} {v : V} (h : RowsAt K H D qs rr) (nd : qs.Nodup) (nD : D ∉ qs) (hq : qs[j]? = some q) (hr : rr[j]? = some r) (eq : H q = some (.lst zs)) (dz : DpAll K H zs (r.map pCut)) (dv : Dp K H v (pCut c)) : RowsAt K (upd H q (.lst (zs ++ [v]))) D qs (rr.set j (r ++ [c])) := by
  have b : Bu q H (upd H q (.lst (zs ++ [v]))) := Bu.set
  have hjl : j < rr.length := (List.getElem?_eq_some_iff.mp hr).1
  refine ⟨b _ _ (fun z => nD (z ▸ List.mem_of_getElem? hq)) h.at_, by rw [List.length_set]; exact h.len, fun i q' r' h1 h2 => ?_⟩
  by_cases e : i = j
  · subst e
    obtain rfl : q = q' := Option.some.inj (hq.symm.trans h1)
    rw [List.getElem?_set_self hjl] at h2
    obtain rfl := Option.some.inj h2
    refine ⟨_, upd_same, ?_⟩
    rw [List.map_append]
    exact (dz.bu (nl_cuts _) b eq).app (.cons (dv.bu rfl b eq) .nil)
  · rw [List.getElem?_set_ne (Ne.symm e)] at h2
    obtain ⟨zs', e', d'⟩ := h.row i q' r' h1 h2
    have ne : q' ≠ q := fun z => by
      rw [z, ← hq] at h1
      exact e ((List.getElem?_inj (List.getElem?_eq_some_iff.mp (hq ▸ h1)).1 nd).mp h1)
    exact ⟨zs', b _ _ ne e', d'.bu (nl_cuts _) b eq⟩
theorem rows_dp {H : Hp} : ∀ (qs : List Addr) (rr : List (List Pm.Cut)), qs.length = rr.length → (∀ (j : Nat) q r, qs[j]? = some q → rr[j]? = some r → ∃ zs, H q = some (.lst zs) ∧ DpAll K H zs (r.map pCut)) → DpAll K H (qs.map V.ref) (rr.map pRnd)
  | [], [], _, _ => .nil
  | [], _ :: _, h, _ => by cases h
  | _ :: _, [], h, _ => by cases h
  | q :: qs, r :: rr, hl, hr => by
    obtain ⟨zs, e, d⟩ := hr 0 q r rfl rfl
    exact .cons (.lst (SqL.of e) d) (rows_dp qs rr (Nat.succ.inj hl) fun j q' r' h1 h2 => hr (j + 1) q' r' (by simpa using h1) (by simpa using h2))
theorem RowsAt.dp {H : Hp} {D : Addr} {qs : List Addr} {rr : List (List Pm.Cut)} (h : RowsAt K H D qs rr) : DpAll K H (qs.map V.ref) (rr.map pRnd) := rows_dp qs rr h.len h.row
def prod (l : List Nat) : Nat := l.foldr (· * ·) 1
theorem prod_app (a b : List Nat) : prod (a ++ b) = prod a * prod b := by
  unfold prod
  induction a with
  | nil => simp
  | cons x a ih => simp only [List.cons_append, List.foldr_cons, ih, Nat.mul_assoc]
/-- pieces of two to four -/
def Pcs (l : List Nat) : Prop := ∀ x ∈ l, 2 ≤ x ∧ x ≤ 4
theorem Pcs.app {a b : List Nat} (h1 : Pcs a) (h2 : Pcs b) : Pcs (a ++ b) := fun x hx => (List.mem_append.mp hx).elim (h1 x) (h2 x)
abbrev nats (l : List Nat) : List V := l.map fun (n : Nat) => V.int (n : Int)
theorem perm_map_inv {α β : Type} (f : α → β) {es xs : List β} (h : es.Perm xs) : ∀ r : List α, xs = r.map f → ∃ r' : List α, r'.Perm r ∧ es = r'.map f := by
  induction h with
  | nil => intro r e; exact ⟨r, List.Perm.refl _, e⟩
  | cons x _ ih =>
    intro r e
    cases r with
    | nil => cases e
    | cons a r =>
      rw [List.map_cons] at e
      obtain ⟨e1, e2⟩ := List.cons.inj e
      obtain ⟨r', p, q⟩ := ih r e2
      exact ⟨a :: r', p.cons a, by rw [List.map_cons, ← q, e1]⟩
  | swap x y l =>
    intro r e
    match r, e with
    | [], e => cases e
    | [_], e => simp at e
    | a :: b :: r, e =>
      simp only [List.map_cons] at e
      obtain ⟨e1, e2⟩ := List.cons.inj e
      obtain ⟨e2, e3⟩ := List.cons.inj e2
      exact ⟨b :: a :: r, List.Perm.swap a b r, by rw [List.map_cons, List.map_cons, ← e1, ← e2, ← e3]⟩
  | trans _ _ i1 i2 =>
    intro r e
    obtain ⟨r1, p1, q1⟩ := i2 r e
    obtain ⟨r2, p2, q2⟩ := i1 r1 q1
    exact ⟨r2, p2.trans p1, q2⟩
theorem flat_set : ∀ {rr : List (List Pm.Cut)} {j : Nat} {r : List Pm.Cut} {c : Pm.Cut}, rr[j]? = some r → ((rr.set j (r ++ [c])).flatten).Perm (rr.flatten ++ [c])
  | [], _, _, _, h => by simp at h
  | x :: rr, 0, r, c, h => by
    obtain rfl : x = r := by simpa using h
    simp only [List.set_cons_zero, List.flatten_cons, List.append_assoc]
    exact List.Perm.append_left x (List.perm_append_comm)
  | x :: rr, j + 1, r, c, h => by
    have := flat_set (rr := rr) (j := j) (r := r) (c := c) (by simpa using h)
    simp only [List.set_cons_succ, List.flatten_cons, List.append_assoc]
    exact List.Perm.append_left x this
theorem tot_flat (ax : Nat) : ∀ rr : List (List Pm.Cut), Pm.tot (rr.filter fun r => !r.isEmpty) ax = Pm.wid rr.flatten ax
  | [] => rfl
  | r :: rr => by
    have ih := tot_flat ax rr
    rw [List.flatten_cons, Pm.wid_app, ← ih]
    cases r with
    | nil =>
      rw [List.filter_cons_of_neg (by simp)]
      simp [Pm.wid]
    | cons c r =>
      rw [List.filter_cons_of_pos (by simp)]
      simp [Pm.tot]
theorem rounds_ok {rr : List (List Pm.Cut)} {cs : List Pm.Cut} (h3 : rr.length ≤ 3) (hr : ∀ r ∈ rr, r.length ≤ 5 ∧ CutsOk r ∧ Pm.size r ≤ 32) (hp : rr.flatten.Perm cs) (hne : cs ≠ []) (hb : Pm.wid cs 0 = Pm.wid cs 1) : Pm.RdsOk (rr.filter fun r => !r.isEmpty) := by
  refine ⟨?_, Nat.le_trans (List.length_filter_le _ _) h3, fun r hr' => ?_, ?_⟩
  · refine List.length_pos_iff.mpr fun z => hne ?_
    have e : rr.flatten = [] := by
      rw [List.flatten_eq_nil_iff]
      intro r hr'
      have := List.filter_eq_nil_iff.mp z r hr'
      simpa using this
    rw [e] at hp
    exact hp.symm.eq_nil
  · obtain ⟨m1, m2⟩ := List.mem_filter.mp hr'
    obtain ⟨h1, h2, h4⟩ := hr r m1
    refine ⟨?_, h1, h2, h4⟩
    cases r with
    | nil => simp at m2
    | cons _ _ => simp
  · rw [tot_flat, tot_flat, Pm.wid_perm hp, Pm.wid_perm hp]
    exact hb
theorem wid_line (a ax : Nat) : ∀ ps : List Nat, Pm.wid (ps.map fun n => (a, n)) ax = if a = ax then prod ps else 1
  | [] => by simp [Pm.wid, prod]
  | n :: ps => by
    have := wid_line a ax ps
    simp only [List.map_cons, Pm.wid, this]
    split <;> simp [prod]
theorem pick_rds (bs : List Bool) : ∀ (rr : List (List Pm.Cut)) (bs : List Bool), pickB (rr.map pRnd) bs = (pickB rr bs).map pRnd
  | [], _ => by simp [pickB]
  | _ :: _, [] => by simp [pickB]
  | r :: rr, b :: bs => by
    have := pick_rds bs rr bs
    cases b <;> simp [pickB, this]
theorem pickB_eq {α β : Type} : ∀ (xs : List α) (ys : List β) (bs : List Bool), xs.length = ys.length → (pickB xs bs).length = (pickB ys bs).length
  | [], [], _, _ => by simp [pickB]
  | [], _ :: _, _, h => by cases h
  | _ :: _, [], _, h => by cases h
  | _ :: _, _ :: _, [], _ => by simp [pickB]
  | _ :: xs, _ :: ys, b :: bs, h => by
    have := pickB_eq xs ys bs (Nat.succ.inj h)
    cases b <;> simp [pickB, this]
theorem eqv_nil (rr : List (List Pm.Cut)) : PyData.eqv (pRds rr) (.list []) = rr.isEmpty := by
  cases rr <;> rfl
theorem eqv_nil1 (r : List Pm.Cut) : PyData.eqv (pRnd r) (.list []) = r.isEmpty := by
  cases r <;> rfl
theorem shaped_rnd (r : List Pm.Cut) : SeqAt.shaped (pRnd r) = true := by
  refine shaped_of ?_ ?_
  · show (PyData.list (r.map pCut)).canLay0 = true
    rw [PyData.canLay0]
    exact canLay_all fun e he => by
      obtain ⟨c, _, rfl⟩ := List.mem_map.mp he
      exact (shaped_cut c).1
  · show (PyData.list (r.map pCut)).depth ≤ _
    rw [PyData.depth]
    have := depth_all (n := 1) (ds := r.map pCut) fun e he => by
      obtain ⟨c, _, rfl⟩ := List.mem_map.mp he
      exact (shaped_cut c).2
    omega
theorem range_cuts (a : Nat) (ps : List Nat) : ((List.range ps.length).map fun i => pCut (a, ps.getD i 0)) = (ps.map fun n => (a, n)).map pCut := by
  refine List.ext_getElem? fun i => ?_
  rw [List.getElem?_map, List.getElem?_map, List.getElem?_map]
  rcases Nat.lt_or_ge i ps.length with c | c
  · rw [List.getElem?_range c, List.getElem?_eq_getElem c]
    simp [List.getD_eq_getElem?_getD, List.getElem?_eq_getElem c]
  · rw [List.getElem?_eq_none (by simpa using c), List.getElem?_eq_none c]
    rfl
/-- the addresses -/
structure Ad (H0 : Hp) (p D Pc Ot : Addr) (qs : List Addr) : Prop where
  a1 : Pc ≠ p
  a2 : Ot ≠ p
  a3 : Pc ≠ Ot
  a4 : D ≠ Pc
  a5 : D ≠ Ot
  a6 : D ≠ p
  a7 : Pc ∉ qs
  a8 : Ot ∉ qs
  a9 : p ∉ qs
  b1 : H0 Pc = none
  b2 : H0 Ot = none
/-- the pieces are gathered -/
structure St1 (K : PySem.W.Frag) (H0 H : Hp) (p D Pc Ot : Addr) (qs : List Addr) (rr : List (List Pm.Cut)) (ps os : List Nat) : Prop where
  pot : Pot H p
  bu : Bu p H0 H
  rows : RowsAt K H D qs rr
  ePc : H Pc = some (.lst (nats ps))
  eOt : H Ot = some (.lst (nats os))
theorem St1.same {H0 H H' : Hp} {p D Pc Ot : Addr} {qs : List Addr} {rr : List (List Pm.Cut)} {ps os : List Nat} (h : St1 K H0 H p D Pc Ot qs rr ps os) (z : Same H H') : St1 K H0 H' p D Pc Ot qs rr ps os :=
  ⟨h.pot.same z, h.bu.trans (Bu.of z p), h.rows.same z, z _ _ h.ePc, z _ _ h.eOt⟩
theorem St1.buu {H0 H H' : Hp} {p D Pc Ot : Addr} {qs : List Addr} {rr : List (List Pm.Cut)} {ps os : List Nat} (h : St1 K H0 H p D Pc Ot qs rr ps os) (A : Ad H0 p D Pc Ot qs) (z : Bu p H H') (hp : Pot H' p) : St1 K H0 H' p D Pc Ot qs rr ps os := by
  obtain ⟨ws, ew⟩ := h.pot.lst
  exact ⟨hp, h.bu.trans z, h.rows.bu z ew A.a6 A.a9, z _ _ A.a1 h.ePc, z _ _ A.a2 h.eOt⟩
theorem St1.setPc {H0 H : Hp} {p D Pc Ot : Addr} {qs : List Addr} {rr : List (List Pm.Cut)} {ps os ps' : List Nat} (h : St1 K H0 H p D Pc Ot qs rr ps os) (A : Ad H0 p D Pc Ot qs) : St1 K H0 (upd H Pc (.lst (nats ps'))) p D Pc Ot qs rr ps' os :=
  ⟨h.pot.upd A.a1, fun c o nc e => by rw [upd_ne (ne_of_none e A.b1)]; exact h.bu c o nc e, h.rows.bu Bu.set h.ePc A.a4 A.a7, upd_same, by rw [upd_ne A.a3.symm]; exact h.eOt⟩
theorem St1.setOt {H0 H : Hp} {p D Pc Ot : Addr} {qs : List Addr} {rr : List (List Pm.Cut)} {ps os os' : List Nat} (h : St1 K H0 H p D Pc Ot qs rr ps os) (A : Ad H0 p D Pc Ot qs) : St1 K H0 (upd H Ot (.lst (nats os'))) p D Pc Ot qs rr ps os' :=
  ⟨h.pot.upd A.a2, fun c o nc e => by rw [upd_ne (ne_of_none e A.b2)]; exact h.bu c o nc e, h.rows.bu Bu.set h.eOt A.a5 A.a8, by rw [upd_ne A.a3]; exact h.ePc, upd_same⟩
def sp_rounds (K : PySem.W.Frag) : Sp := fun vs H Q _ => ∃ (p : Addr), vs = [.ref p] ∧ Pot H p ∧ ∀ (v : V) (rs : List (List Pm.Cut)) (H' : Hp), Dp K H' v (pRds rs) → Pm.RdsOk rs → Pot H' p → Bu p H H' → Q v H'
theorem c_rounds {K : PySem.W.Frag} {p : Addr} {H : Hp} {Q : VK} {E : XK} (h0 : Pot H p) (q : ∀ (v : V) (rs : List (List Pm.Cut)) (H' : Hp), Dp K H' v (pRds rs) → Pm.RdsOk rs → Pot H' p → Bu p H H' → Q v H') : sp_rounds K [.ref p] H Q E := ⟨_, rfl, h0, q⟩
local macro_rules | `(tactic| tb_rel) => `(tactic| repeat (first
  | with_reducible assumption
  | with_reducible exact Dp.int _
  | with_reducible exact Dp.str _
  | with_reducible exact Dp.bl _
  | with_reducible exact Dp.non
  | (with_reducible apply SqT.of; with_reducible assumption)
  | (with_reducible apply SqL.of; with_reducible assumption)
  | (with_reducible apply up_dp; with_reducible assumption)
  | (with_reducible apply up_sqt; with_reducible assumption)
  | (with_reducible apply up_sql; with_reducible assumption)
  | (with_reducible apply up_get; with_reducible assumption)
  | (with_reducible apply up_pot; with_reducible assumption)
  | with_reducible exact Same.refl _
  | with_reducible exact Bu.refl _ _
  | (with_reducible apply up_same; with_reducible assumption)
  | (with_reducible apply up_bu; with_reducible assumption)
  | (with_reducible apply bu_bu; with_reducible assumption)
  | (with_reducible apply free_of; with_reducible assumption)
  | (with_reducible apply mi_fr; with_reducible assumption; (focus (tb_rel; done)))
  | (with_reducible apply mi_dp; with_reducible assumption)
  | (with_reducible apply mi_sqt; with_reducible assumption)
  | (with_reducible apply mi_sql; with_reducible assumption)
  | (with_reducible apply mi_gett; with_reducible assumption)
  | (with_reducible apply mi_getl; with_reducible assumption)
  | (with_reducible apply mi_pot; with_reducible assumption)
  | (with_reducible apply mi_refl; with_reducible assumption; (focus (with_unfolding_all exact rfl)))
  | (with_reducible apply up_mi; with_reducible assumption)
  | (with_reducible apply mi_mi; with_reducible assumption)
  | (with_reducible apply mi_bu; with_reducible assumption)
  | (with_reducible apply up_plan; with_reducible assumption)
  | (with_reducible apply bu_plan; with_reducible assumption; (focus (tb_rel; done)))
  | (with_reducible apply mi_plan; with_reducible assumption; (focus (lcg_src; done)))
  | (with_reducible apply up_bd; with_reducible assumption)
  | (with_reducible apply bd_bd; with_reducible assumption)
  | (with_reducible apply bd_same; with_reducible assumption; (focus (tb_rel; done)))
  | (with_reducible apply bd_bup; with_reducible assumption; (focus (tb_rel; done)))
  | (with_reducible apply bu_getd; with_reducible assumption; (focus (tb_rel; done)))
  | (with_reducible apply bd_dp; with_reducible assumption)
  | (with_reducible apply bd_sqt; with_reducible assumption)
  | (with_reducible apply bd_sql; with_reducible assumption)
  | (with_reducible apply bd_gett; with_reducible assumption)
  | (with_reducible apply bd_getl; with_reducible assumption)
  | (with_reducible apply bd_geti; with_reducible assumption)
  | (with_reducible apply bd_pot; with_reducible assumption)
  | (with_reducible apply pf_dp; with_reducible assumption; (focus (tb_rel; done)); (focus (lcg_src; done)))
  | (with_reducible apply bu_gett; with_reducible assumption; (focus (tb_rel; done)))
  | (with_reducible apply bu_geti; with_reducible assumption; (focus (tb_rel; done)))
  | (with_reducible apply bu_get; with_reducible assumption; (focus (tlg_ne; done)))
  | (with_reducible apply bu_sqt; with_reducible assumption; (focus (tb_rel; done)))
  | (with_reducible apply bu_sql; with_reducible assumption; (focus (tlg_ne; done)))
  | (with_reducible apply bu_dp; with_reducible assumption; (focus (tb_rel; done)); (focus (lcg_src; done)))
  | fail "up"))
local macro_rules | `(tactic| tlg_ne) => `(tactic| first
  | with_reducible assumption
  | (with_reducible apply pot_ne; with_reducible assumption; (focus (tb_rel; done)))
  | fail "ne")
local macro_rules | `(tactic| lcg_src) => `(tactic| first
  | with_reducible assumption
  | with_unfolding_all exact rfl
  | with_unfolding_all decide
  | with_unfolding_all exact Nat.ne_of_beq_eq_false rfl
  | (apply_assumption; done)
  | omega
  | (simp; done)
  | (simp; omega)
  | fail "sd")
local macro_rules | `(tactic| lcg_sub) => `(tactic| first
  | (unfold sizeLine; omega)
  | (simp only [List.length_cons, List.length_nil, List.length_append, List.length_map, List.length_replicate, List.length_take, List.length_drop]; unfold sizeLine; omega)
  | (simp; unfold sizeLine; omega)
  | fail "sz")
local macro_rules | `(tactic| nest_cls) => `(tactic| first
  | (tb_rel; done)
  | (with_reducible apply nmI; (focus (tb_rel; done)))
  | (with_reducible apply d_tup; (focus (tb_rel; done)); (focus (lsm_bools; done)))
  | (with_reducible apply d_lst; (focus (tb_rel; done)); (focus (lsm_bools; done)))
  | fail "dp")
local macro_rules | `(tactic| lsm_bools) => `(tactic| repeat (first
  | with_reducible exact DpAll.nil
  | with_reducible assumption
  | (with_reducible apply DpAll.cons; (focus (nest_cls; done)))
  | fail "dpa"))
local macro_rules | `(tactic| none_booked) => `(tactic| first | with_unfolding_all exact rfl | (with_reducible apply atI_nat; with_reducible assumption) | fail "ix")
local macro_rules | `(tactic| walk_at "go") => `(tactic| repeat (first
  | (focus (with_reducible refine go_var (v := ?_) ?_ ?_; rotate_left; (focus (with_unfolding_all exact rfl))))
  | with_reducible refine go_seq ?_
  | with_reducible refine go_cN ?_
  | with_reducible refine go_c ?_
  | with_reducible refine go_op ?_
  | with_reducible refine go_nil ?_
  | with_reducible refine go_cons ?_
  | with_reducible refine go_cb ?_
  | with_reducible refine go_call0 ?_
  | with_reducible refine go_asg ?_
  | (focus (with_reducible refine go_gname (σ' := ?_) ?_ ?_; rotate_left; (focus (simp only [List.set_cons_succ, List.set_cons_zero]; exact rfl))))
  | with_reducible refine go_par ?_
  | with_reducible refine go_par3 ?_
  | (focus (with_reducible refine go_par3k (σ' := ?_) ?_ ?_; rotate_left; (focus (simp only [List.set_cons_succ, List.set_cons_zero]; exact rfl))))
  | with_reducible refine go_bm ?_
  | (with_reducible apply go_bmL; (focus (tb_rel; done)))
  | (with_reducible apply go_fdX; (focus (with_reducible assumption; done)))
  | (with_reducible apply go_rI; (focus (with_reducible assumption; done)))
  | (focus (with_reducible refine go_par2 (σ' := ?_) ?_ ?_; rotate_left; (focus (simp only [List.set_cons_succ, List.set_cons_zero]; exact rfl))))
  | with_reducible refine go_ifs ?_
  | with_reducible refine go_test ?_
  | with_reducible refine go_tb ?_
  | with_reducible refine go_asb ?_
  | with_reducible refine go_asi ?_
  | with_reducible refine go_ret ?_
  | with_reducible refine go_retn ?_
  | with_reducible refine go_drop ?_
  | with_reducible refine go_next ?_
  | with_reducible refine go_and ?_
  | with_reducible refine go_or ?_
  | with_reducible refine go_not ?_
  | with_reducible refine go_andv ?_
  | with_reducible refine go_orv ?_
  | with_reducible refine go_notv ?_
  | with_reducible refine go_ife ?_
  | with_reducible refine go_chain ?_
  | with_reducible refine go_if1 ?_
  | with_reducible refine go_if0 ?_
  | with_reducible refine go_ifn1 ?_
  | with_reducible refine go_ifn0 ?_
  | (with_reducible apply go_ift; (focus (first | with_reducible rfl | with_reducible assumption | omega)))
  | (with_reducible apply go_ifnt; (focus (first | with_reducible rfl | with_reducible assumption | omega)))
  | (with_reducible apply go_iff; (focus (first | with_reducible assumption | omega)))
  | (with_reducible apply go_ifnf; (focus (first | with_reducible assumption | omega)))
  | with_reducible refine go_un ?_
  | with_reducible refine go_tup ?_
  | with_reducible refine go_lst ?_
  | (with_reducible apply go_newt; (focus (lcg_sub; done)); intros)
  | (with_reducible apply go_newl; (focus (lcg_sub; done)); intros)
  | with_reducible refine go_meth ?_
  | with_reducible refine go_for ?_
  | with_reducible refine go_lc ?_
  | with_reducible refine go_irng1 ?_
  | with_reducible refine go_irng2 ?_
  | with_reducible refine go_ilist ?_
  | with_reducible refine go_itup ?_
  | with_reducible refine go_izip ?_
  | with_reducible refine go_ienum ?_
  | (with_reducible apply go_rg1; (focus (lcg_src; done)))
  | (with_reducible apply go_rg2; (focus (lcg_src; done)); (focus (lcg_src; done)))
  | (with_reducible apply go_lsr; (focus (tb_rel; done)))
  | (with_reducible apply go_tpr; (focus (tb_rel; done)))
  | (with_reducible apply go_zpr; (focus (tb_rel; done)); (focus (tb_rel; done)))
  | (with_reducible apply go_zprT; (focus (tb_rel; done)); (focus (tb_rel; done)))
  | (with_reducible apply go_enrL; (focus (tb_rel; done)))
  | (with_reducible apply go_enrT; (focus (tb_rel; done)))
  | with_reducible refine go_prop ?_
  | with_reducible refine go_knr0 ?_
  | (with_reducible apply go_knr; (focus (with_unfolding_all exact rfl; done)); (focus (simp only [kSw2, kRev3, kId, List.nil_append, List.cons_append]; exact rfl)))
  | with_reducible refine go_mkn ?_
  | (with_reducible apply go_mkr; (focus (tb_rel; done)); (focus (with_unfolding_all exact rfl; done)))
  | with_reducible refine go_fld ?_
  | (with_reducible apply go_flr; (focus (tb_rel; done)); (focus (with_reducible assumption; done)); (focus (with_reducible assumption; done)); (focus (with_unfolding_all exact rfl; done)))
  | (with_reducible apply go_prr; (focus (tb_rel; done)))
  | (with_reducible apply go_mer; (focus (tb_rel; done)); (focus (with_unfolding_all exact rfl; done)))
  | with_reducible refine go_sfld ?_
  | (with_reducible apply go_sfr; (focus (tb_rel; done)); (focus (with_reducible assumption; done)); (focus (with_reducible assumption; done)); (focus (with_unfolding_all exact Nat.le_of_ble_eq_true rfl; done)); (focus (with_unfolding_all exact rfl; done)); intros)
  | with_reducible refine go_revt ?_
  | with_reducible refine go_make0 ?_
  | (focus (with_reducible refine go_aug (x := ?_) ?_ ?_; rotate_left; (focus (with_unfolding_all exact rfl))))
  | (focus (with_reducible refine go_augk (σ' := ?_) ?_ ?_; rotate_left; (focus (simp only [List.set_cons_succ, List.set_cons_zero]; exact rfl))))
  | with_reducible refine go_min2 ?_
  | with_reducible refine go_int1 ?_
  | with_reducible refine go_max2 ?_
  | with_reducible refine go_intB ?_
  | with_reducible refine go_absN ?_
  | with_reducible refine go_isN ?_
  | with_reducible refine go_notN ?_
  | (with_reducible apply go_rvt; (focus (tb_rel; done)); (focus (simp only [List.reverse_cons, List.reverse_nil, List.nil_append, List.cons_append]; exact rfl)); intros)
  | (with_reducible apply go_reprNm; (focus (tb_rel; done)); (focus (with_reducible assumption; done)))
  | (with_reducible apply go_reprPr; (focus (nest_cls; done)); (focus (lcg_src; done)); (focus (lcg_src; done)))
  | with_reducible refine go_sl ?_
  | with_reducible refine go_part ?_
  | with_reducible refine go_nopart ?_
  | (with_reducible apply go_gtup; (focus (tb_rel; done)); (focus (with_unfolding_all exact rfl; done)))
  | (with_reducible apply go_gunl; (focus (tb_rel; done)); (focus (with_unfolding_all exact rfl; done)))
  | with_reducible refine go_gcons ?_
  | with_reducible refine go_gnil ?_
  | with_reducible refine go_addN ?_
  | with_reducible refine go_ltN ?_
  | with_reducible refine go_leN ?_
  | with_reducible refine go_gtN ?_
  | with_reducible refine go_geN ?_
  | (with_reducible apply go_subN; (focus (omega; done)))
  | with_reducible refine go_rI0 ?_
  | (with_reducible apply go_mulN; (focus (omega; done)))
  | (with_reducible apply go_modN; (focus (omega; done)))
  | (with_reducible apply go_divN; (focus (omega; done)))
  | (with_reducible apply go_powN; (focus (with_unfolding_all decide; done)))
  | with_reducible refine go_rU ?_
  | with_reducible refine go_eqN ?_
  | with_reducible refine go_neN ?_
  | with_reducible refine go_isB ?_
  | with_reducible refine go_notB ?_
  | with_reducible refine go_eqS ?_
  | with_reducible refine go_neS ?_
  | with_reducible refine go_eqB ?_
  | with_reducible refine go_eqI ?_
  | with_reducible refine go_neI ?_
  | (with_reducible apply go_ixt; (focus (tb_rel; done)); (focus (none_booked; done)))
  | (with_reducible apply go_ixl; (focus (tb_rel; done)); (focus (none_booked; done)))
  | (with_reducible apply go_lent; (focus (tb_rel; done)))
  | (with_reducible apply go_lenNm; (focus (tb_rel; done)))
  | (with_reducible apply go_isiNm; (focus (tb_rel; done)))
  | (with_reducible apply go_lenl; (focus (tb_rel; done)))
  | (with_reducible apply go_catA; (focus (tb_rel; done)); (focus (tb_rel; done)); (focus (lcg_sub; done)); intros)
  | (with_reducible apply go_slaT; (focus (tb_rel; done)); intros)
  | (with_reducible apply go_slaD; (focus (tb_rel; done)); intros)
  | (with_reducible apply go_rep; (focus (tb_rel; done)); (focus (lcg_src; done)); intros)
  | (with_reducible apply go_tupofl; (focus (tb_rel; done)); intros)
  | (with_reducible apply go_sllT; (focus (tb_rel; done)); intros)
  | (with_reducible apply go_sllD; (focus (tb_rel; done)); intros)
  | (with_reducible apply go_cat; (focus (tb_rel; done)); (focus (tb_rel; done)); (focus (lcg_sub; done)); intros)
  | (with_reducible apply go_eqP; with_reducible assumption; (focus (tb_rel; done)); (focus (tb_rel; done)))
  | (with_reducible apply go_neP; with_reducible assumption; (focus (tb_rel; done)); (focus (tb_rel; done)))
  | (with_reducible apply go_mep; (focus (tb_rel; done)); (focus decide); (focus decide); (focus decide))
  | (with_reducible apply c_drawN; (focus (tb_rel; done)); (focus (lcg_src; done)); (focus (lcg_src; done)); intros)
  | (with_reducible apply c_lprod; (focus (nest_cls; done)); (focus (lcg_src; done)); intros)
  | (with_reducible apply c_mixed; (focus (tb_rel; done)); (focus (nest_cls; done)); (focus (lcg_src; done)); (focus (lcg_src; done)); intros)
  | (with_reducible apply c_pick; (focus (tb_rel; done)); (focus (tlg_ne; done)); (focus (tb_rel; done)); (focus (lcg_src; done)); (focus (lcg_src; done)); intros)
  | (with_reducible apply c_rounds; (focus (tb_rel; done)); intros)
  | with_reducible refine go_dget ?_
  | with_reducible refine go_dgr2 ?_
  | with_reducible refine go_dput ?_
  | with_reducible refine go_dpr2 ?_
  | with_reducible refine go_dpt ?_
  | with_reducible refine go_pnil ?_
  | with_reducible refine go_pcons ?_
  | with_reducible refine go_gsub ?_
  | with_reducible refine go_sir ?_
  | with_reducible refine go_lrg ?_
  | with_reducible refine go_rgt2 ?_
  | with_reducible refine go_rge ?_
  | with_reducible refine go_revl ?_
  | (with_reducible apply go_dgk; (focus (tb_rel; done)); with_reducible assumption)
  | (with_reducible apply go_dpk; (focus (tb_rel; done)); (focus (lcg_sub; done)); intros)
  | (with_reducible apply go_disp; intros)
  | (with_reducible apply go_dsk2; (focus (tb_rel; done)); intros)
  | (with_reducible apply go_lrr; (focus (omega; done)); (focus (omega; done)); intros)
  | (with_reducible apply go_rvl; (focus (tb_rel; done)); intros)
  | with_reducible refine go_cv ?_
  | with_reducible refine go_cvr ?_
  | with_reducible refine go_mkr1 ?_
  | with_reducible refine go_cma ?_
  | with_reducible refine go_cmk ?_
  | with_reducible refine go_cmr ?_
  | with_reducible refine go_ckr ?_
  | (with_reducible apply go_mkL; (focus (with_unfolding_all exact rfl)))
  | (with_reducible apply go_cmv; (focus (with_unfolding_all exact rfl)); (focus (simp only [gApp, kId, List.nil_append, List.cons_append, List.append_nil]; exact rfl)))
  | (with_reducible apply go_ckv; (focus (with_unfolding_all exact rfl)); (focus (simp only [gApp, kId, List.nil_append, List.cons_append, List.append_nil]; exact rfl)))
  | fail "go"))
theorem ok_rounds {f : Addr} {fd : FuncData} (F : Df K "_law_rounds" "_law_rounds" s_rounds [] f fd) (B : Blt mg) (cDr : Ca P w K mg base 1 "_law_draw" sp_draw []) (cPk : Ca P w K mg base 2 "_law_pick" (sp_pick K) []) (cMx : Ca P w K mg base 2 "_law_mixed" (sp_mixed K) []) (cPd : Ca P w K mg base 1 "_law_product" (sp_lprod K) []) : FnOk P w K mg base CX0 3 f fd ["_law_pot_here"] (sp_rounds K) := by
  refine dfOk F sc_rounds (fun vs H Q E h => ?_) (fun cdv A outer s H vs Q E hr h => ?_)
  · obtain ⟨p, rfl, _⟩ := h
    rfl
  · obtain ⟨p, rfl, hp, q⟩ := h
    refine ⟨_, (pss_cons (ps_par3 (i := 1) (j := 2) (l := 3) (by rfl) sc_rounds.nd rfl rfl rfl (by decide) (by decide) (by decide) rfl rfl rfl (pa_cons (pe_lc (own := [("_law_k", 4)]) (by rfl) sc_rounds.nd (pi_range1 (by rfl) B.range (pa_cons (pe_op op_add pe_int (pe_ca cDr hr (by decide) (by rfl) (pa_cons (pv 0) (pa_cons pe_int pa_nil)))) pa_nil)) (blkOk_by (own := [("_law_k", 4)]) (N := ["_law_pot_here", "_law_rows", "_law_pieces", "_law_others_here", "_law_k", "_law_turn", "_law_one", "_law_axes", "_law_cuts", "_law_cut", "_law_room", "_law_row", "_law_near"]) (sc := defScope s_rounds) (by decide +kernel)) (fun _ _ _ _ _ => (pg_name (i := 4) sc_rounds.nd rfl (Or.inl rfl))) (fun _ _ _ _ _ => pts_nil) (fun _ _ _ _ _ => (pe_lst pa_nil))) (pa_cons (pe_lst pa_nil) (pa_cons (pe_lst pa_nil) pa_nil))) (by rfl))
  (pss_cons (ps_for PassesOwn.never rfl (pi_range1 (by rfl) B.range (pa_cons (pe_op op_add pe_int (pe_ca cDr hr (by decide) (by rfl) (pa_cons (pv 0) (pa_cons pe_int pa_nil)))) pa_nil)) (pg_name (i := 5) sc_rounds.nd rfl (Or.inl rfl))
  (pss_cons (ps_set (i := 6) sc_rounds.nd rfl (Or.inl rfl) (pe_ca cPk hr (by decide) (by rfl) (pa_cons (pv 0) (pa_cons (pe_lst (pa_cons pe_int (pa_cons pe_int (pa_cons pe_int (pa_cons pe_int pa_nil))))) pa_nil))))
  (pss_cons (ps_expr (pe_bm' PySem.F.plainAttrs_list PySem.F.slot_list_append PySem.F.type_list_append mt_append (pv 2) (pa_cons (pv 6) pa_nil)))
  (pss_one (ps_expr (pe_bm' PySem.F.plainAttrs_list PySem.F.slot_list_extend PySem.F.type_list_extend mt_extend (pv 3) (pa_cons (pe_ifExp (PW.pt (pw_and (pt_cmpR op_eq (pv 6) pe_int (nomark _)) (pw_and1 (pt_cmpR op_eq (pe_ca cDr hr (by decide) (by rfl) (pa_cons (pv 0) (pa_cons pe_int pa_nil))) pe_int (nomark _))))) (pe_lst (pa_cons pe_int (pa_cons pe_int pa_nil))) (pe_lst (pa_cons (pv 6) pa_nil))) pa_nil)))))))
  (pss_cons (ps_set (i := 7) sc_rounds.nd rfl (Or.inr rfl) (pe_ca cPk hr (by decide) (by rfl) (pa_cons (pv 0) (pa_cons (pe_lst (pa_cons (pe_lst (pa_cons pe_str (pa_cons pe_str pa_nil))) (pa_cons (pe_lst (pa_cons pe_str (pa_cons pe_str pa_nil))) pa_nil))) pa_nil))))
  (pss_cons (ps_set (i := 8) sc_rounds.nd rfl (Or.inl rfl) (pe_op op_cat (pe_lc (own := [("_law_one", 6)]) (by rfl) sc_rounds.nd (pi_list' (pv 2)) (blkOk_by (own := [("_law_one", 6)]) (N := ["_law_pot_here", "_law_rows", "_law_pieces", "_law_others_here", "_law_k", "_law_turn", "_law_one", "_law_axes", "_law_cuts", "_law_cut", "_law_room", "_law_row", "_law_near"]) (sc := defScope s_rounds) (by decide +kernel)) (fun _ _ _ _ _ => (pg_name (i := 6) sc_rounds.nd rfl (Or.inl rfl))) (fun _ _ _ _ _ => pts_nil) (fun _ _ _ _ _ => (pe_tup (pa_cons (pe_ix ix_list' (pv 7) pe_int (fun _ _ => rfl)) (pa_cons (pv 6) pa_nil))))) (pe_lc (own := [("_law_one", 6)]) (by rfl) sc_rounds.nd (pi_list' (pv 3)) (blkOk_by (own := [("_law_one", 6)]) (N := ["_law_pot_here", "_law_rows", "_law_pieces", "_law_others_here", "_law_k", "_law_turn", "_law_one", "_law_axes", "_law_cuts", "_law_cut", "_law_room", "_law_row", "_law_near"]) (sc := defScope s_rounds) (by decide +kernel)) (fun _ _ _ _ _ => (pg_name (i := 6) sc_rounds.nd rfl (Or.inl rfl))) (fun _ _ _ _ _ => pts_nil) (fun _ _ _ _ _ => (pe_tup (pa_cons (pe_ix ix_list' (pv 7) pe_int (fun _ _ => rfl)) (pa_cons (pv 6) pa_nil)))))))
  (pss_cons (ps_for PassesOwn.never rfl (pi_list' (pe_ca cMx hr (by decide) (by rfl) (pa_cons (pv 0) (pa_cons (pv 8) pa_nil)))) (pg_name (i := 9) sc_rounds.nd rfl (Or.inr rfl))
  (pss_cons (ps_setLc (i := 10) (own := [("_law_row", 11)]) (by rfl) sc_rounds.nd rfl rfl (sw_true rfl rfl rfl (by decide +kernel)) (pi_list' (pv 1)) (blkOk_by (own := [("_law_row", 11)]) (N := ["_law_pot_here", "_law_rows", "_law_pieces", "_law_others_here", "_law_k", "_law_turn", "_law_one", "_law_axes", "_law_cuts", "_law_cut", "_law_room", "_law_row", "_law_near"]) (sc := defScope s_rounds) (by decide +kernel)) (fun _ _ _ _ _ => (pg_name (i := 11) sc_rounds.nd rfl (Or.inl rfl))) (fun _ _ _ _ _ => (pts_one (PW.pt (pw_and (pt_cmpR op_lt (pe_callB call_len_seq' (by rfl) B.len bt_len (pa_cons (pv 11) pa_nil)) pe_int (nomark _)) (pw_and1 (pt_cmpR op_le (pe_op op_mul (pe_ca cPd hr (by decide) (by rfl) (pa_cons (pv 11) pa_nil)) (pe_ix ix_tup' (pv 9) pe_int (fun _ _ => rfl))) pe_int (nomark _))))))) (fun _ _ _ _ _ => (pv 11)))
  (pss_cons (ps_if (pt_cmpR (op_eqD' hr.units) (pv 10) (pe_lst pa_nil) (nomark _))
  (pss_one (ps_ret (pe_lst (pa_cons (pe_lst (pa_cons (pe_tup (pa_cons pe_str (pa_cons pe_int pa_nil))) (pa_cons (pe_tup (pa_cons pe_str (pa_cons pe_int pa_nil))) pa_nil))) pa_nil))))
  pss_nil)
  (pss_cons (ps_set (i := 12) sc_rounds.nd rfl (Or.inl rfl) (pe_ca cPk hr (by decide) (by rfl) (pa_cons (pv 0) (pa_cons (pv 10) pa_nil))))
  (pss_one (ps_expr (pe_bm' PySem.F.plainAttrs_list PySem.F.slot_list_append PySem.F.type_list_append mt_append (pv 12) (pa_cons (pv 9) pa_nil))))))))
  (pss_one (ps_ret (pe_lc (own := [("_law_row", 11)]) (by rfl) sc_rounds.nd (pi_list' (pv 1)) (blkOk_by (own := [("_law_row", 11)]) (N := ["_law_pot_here", "_law_rows", "_law_pieces", "_law_others_here", "_law_k", "_law_turn", "_law_one", "_law_axes", "_law_cuts", "_law_cut", "_law_room", "_law_row", "_law_near"]) (sc := defScope s_rounds) (by decide +kernel)) (fun _ _ _ _ _ => (pg_name (i := 11) sc_rounds.nd rfl (Or.inl rfl))) (fun _ _ _ _ _ => (pts_one (pt_cmpR (op_neD' hr.units) (pv 11) (pe_lst pa_nil) (nomark _)))) (fun _ _ _ _ _ => (pv 11)))))))))), ?_⟩
    refine go_start (σ := [some _, none, none, none, none, none, none, none, none, none, none, none, none]) rfl ?_
    walk_at "go"
    rename_i d G1 ld p1 b1
    refine lcNews (K := K) walk_range (fun _ => []) (by omega) (fun _ _ => rfl) (fun _ _ => trivial) (fun i x H1 H2 Q' hi s1 hy hq => ?_) (fun D H1 ys nD s1 eD hn => ?_) gName_mono
    · obtain ⟨rfl, rfl⟩ := hy
      refine ⟨rfl, ?_⟩
      walk_at "go"
      exact hq _ _ _ (by assumption) (by assumption) (by assumption) .nil
    · obtain ⟨qs, rfl, nd, nDq, ql, hqs⟩ := hn.ex
      have ql' : qs.length = 1 + d := by rw [ql]; simp
      have R1 : RowsAt K H1 D qs (List.replicate (1 + d) []) := by
        refine ⟨eD, by rw [ql', List.length_replicate], fun j q r h1 h2 => ?_⟩
        obtain ⟨hj, _⟩ := List.getElem?_eq_some_iff.mp h1
        have e : ((List.range (1 + d)).map fun _ => ([] : List PyData))[j]? = some [] := by
          rw [List.getElem?_map, List.getElem?_range (by omega)]
          rfl
        obtain ⟨_, _, zs, e', d'⟩ := hqs j q [] h1 e
        obtain rfl : r = [] := by
          have := List.mem_of_getElem? h2
          exact List.eq_of_mem_replicate this
        exact ⟨zs, e', d'⟩
      have qnew : ∀ x ∈ qs, G1 x = none := fun x hx => by
        obtain ⟨j, hj⟩ := List.getElem?_of_mem hx
        have hjl := (List.getElem?_eq_some_iff.mp hj).1
        exact (hqs j x [] hj (by rw [List.getElem?_map, List.getElem?_range (by omega)]; rfl)).1
      have pq : p ∉ qs := fun h => p1.ne (qnew p h) rfl
      have Dp' : D ≠ p := p1.ne nD
      have qold : ∀ x ∈ qs, ∃ o, H1 x = some o := fun x hx => by
        obtain ⟨j, hj⟩ := List.getElem?_of_mem hx
        have hjl := (List.getElem?_eq_some_iff.mp hj).1
        obtain ⟨zs, e, _⟩ := R1.row j x [] hj (by rw [List.getElem?_replicate, if_pos (by omega)])
        exact ⟨_, e⟩
      have free0 : ∀ {x : Addr}, G1 x = none → x ≠ p → H x = none := fun {x} h n => by
        cases e : H x with
        | none => rfl
        | some o => rw [b1 _ _ n e] at h; cases h
      walk_at "go"
      rename_i Pc H2 nPc s2 ePc Ot H3 nOt s3 eOt d2 H4 ld2 p4 b4
      have pH1 : Pot H1 p := p1.same s1
      have A : Ad H p D Pc Ot qs := by
        have h1 : Pc ≠ p := pH1.ne nPc
        have h2 : Ot ≠ p := (pH1.same s2).ne nOt
        refine ⟨h1, h2, fun z => ?_, fun z => ?_, fun z => ?_, Dp', fun z => ?_, fun z => ?_, pq, free0 (s1.free nPc) h1, free0 (s1.free (s2.free nOt)) h2⟩
        · rw [← z, ePc] at nOt; cases nOt
        · rw [← z, eD] at nPc; cases nPc
        · rw [← z, s2 _ _ eD] at nOt; cases nOt
        · obtain ⟨o, e⟩ := qold Pc z
          rw [e] at nPc; cases nPc
        · obtain ⟨o, e⟩ := qold Ot z
          rw [s2 _ _ e] at nOt; cases nOt
      have T3 : St1 K H H3 p D Pc Ot qs (List.replicate (1 + d) []) [] [] := ⟨by tb_rel, by tb_rel, (R1.same s2).same s3, s3 _ _ ePc, eOt⟩
      have T4 := T3.buu A b4 p4
      have qfree : ∀ x ∈ qs, H x = none := fun x hx => free0 (qnew x hx) (fun z => pq (z ▸ hx))
      have Dfree : H D = none := free0 nD Dp'
      clear T3 R1 hn hqs qold qnew free0 eD eOt ePc b4 s3 s2 s1 b1 p4 pH1 p1 nPc nOt nD
      refine forRange (fun i σ H' => ∃ (v4 v5 v6 : Option V) (ps os : List Nat), σ = [some (.ref p), some (.ref D), some (.ref Pc), some (.ref Ot), v4, v5, v6, none, none, none, none, none, none] ∧ St1 K H H' p D Pc Ot qs (List.replicate (1 + d) []) ps os ∧ ps.length = i ∧ os.length ≤ 2 * i ∧ Pcs ps ∧ Pcs os ∧ prod ps = prod os) ⟨_, _, _, [], [], rfl, T4, rfl, Nat.le_refl _, (fun x hx => by cases hx), (fun x hx => by cases hx), rfl⟩ ?_ ?_
      · rintro i σ K1 hi ⟨v4, v5, v6, ps, os, rfl, T, pl, ol, pp, po, pe⟩
        have pK := T.pot
        walk_at "go"
        rename_i l K2 nl s2 el v K3 hv p3 b3
        have T3 := (T.same s2).buu A b3 p3
        obtain ⟨n, rfl, hn2, hn4⟩ : ∃ n : Nat, v = .int (n : Int) ∧ 2 ≤ n ∧ n ≤ 4 := by
          simp only [List.mem_cons, List.not_mem_nil, or_false] at hv
          rcases hv with rfl | rfl | rfl | rfl
          · exact ⟨2, rfl, by decide, by decide⟩
          · exact ⟨2, rfl, by decide, by decide⟩
          · exact ⟨3, rfl, by decide, by decide⟩
          · exact ⟨4, rfl, by decide, by decide⟩
        have eP := T3.ePc
        walk_at "go"
        refine go_app eP (by rw [List.length_map]; unfold sizeLine; omega) ?_
        have T4 := T3.setPc (ps' := ps ++ [n]) A
        rw [show nats (ps ++ [n]) = nats ps ++ [V.int (n : Int)] by simp [nats]] at T4
        generalize upd K3 Pc _ = K4 at T4 ⊢
        have pp' : Pcs (ps ++ [n]) := pp.app fun x hx => by
          obtain rfl : x = n := by simpa using hx
          exact ⟨hn2, hn4⟩
        have pl' : (ps ++ [n]).length = i + 1 := by simp [pl]
        have fin : ∀ (K5 : Hp) (os' : List Nat) (l5 : Addr) (w4 w5 w6 : Option V), St1 K H K5 p D Pc Ot qs (List.replicate (1 + d) []) (ps ++ [n]) os → K5 l5 = some (.lst (nats os')) → os'.length ≤ 2 → Pcs os' → prod os' = n → rExtend (.ref Ot) [.ref l5] K5 fun _ H' => ∃ (v4 v5 v6 : Option V) (ps os : List Nat), [some (.ref p), some (.ref D), some (.ref Pc), some (.ref Ot), w4, w5, w6, none, none, none, none, none, none] = [some (.ref p), some (.ref D), some (.ref Pc), some (.ref Ot), v4, v5, v6, none, none, none, none, none, none] ∧ St1 K H H' p D Pc Ot qs (List.replicate (1 + d) []) ps os ∧ ps.length = i + 1 ∧ os.length ≤ 2 * (i + 1) ∧ Pcs ps ∧ Pcs os ∧ prod ps = prod os := by
          intro K5 os' l5 w4 w5 w6 T5 e5 h2 hp5 hpr
          refine go_ext T5.eOt e5 (by rw [List.length_map, List.length_map]; unfold sizeLine; omega) ?_
          have T6 := T5.setOt (os' := os ++ os') A
          rw [show nats (os ++ os') = nats os ++ nats os' by simp [nats]] at T6
          refine ⟨w4, w5, w6, ps ++ [n], os ++ os', rfl, T6, pl', by rw [List.length_append]; omega, pp', po.app hp5, ?_⟩
          rw [prod_app, prod_app, pe, hpr]
          simp [prod]
        have pK4 := T4.pot
        have eO := T4.eOt
        have pn : Pcs [n] := fun x hx => by
          obtain rfl : x = n := by simpa using hx
          exact ⟨hn2, hn4⟩
        by_cases h4 : n = 4
        · walk_at "go"
          rename_i d3 K5 ld3 p5 b5
          have T5 := T4.buu A b5 p5
          by_cases h0 : d3 = 0
          · walk_at "go"
            exact fin _ [2, 2] _ _ _ _ (T5.same (by assumption)) (by assumption) (by decide) (by unfold Pcs; decide) (by rw [h4]; rfl)
          · walk_at "go"
            exact fin _ [n] _ _ _ _ (T5.same (by assumption)) (by assumption) (Nat.le_succ 1) pn (by simp [prod])
        · walk_at "go"
          exact fin _ [n] _ _ _ _ (T4.same (by assumption)) (by assumption) (Nat.le_succ 1) pn (by simp [prod])
      · rintro σ K1 ⟨v4, v5, v6, ps, os, rfl, T, pl, ol, pp, po, pe⟩
        have pK := T.pot
        walk_at "go"
        rename_i x1 J1 n1 s1 f1 x2 J2 n2 s2 f2 x3 J3 n3 s3 f3 v J4 hv p4 b4
        have T4 := (((T.same s1).same s2).same s3).buu A b4 p4
        obtain ⟨xa, a0, a1, rfl, hxa, ha⟩ : ∃ (xa : Addr) (a0 a1 : Nat), v = .ref xa ∧ J4 xa = some (.lst [.str (axn a0), .str (axn a1)]) ∧ (a0 = 0 ∧ a1 = 1 ∨ a0 = 1 ∧ a1 = 0) := by
          simp only [List.mem_cons, List.not_mem_nil, or_false] at hv
          have g1 : x1 ≠ p := pK.ne n1
          have g2 : x2 ≠ p := (pK.same s1).ne n2
          rcases hv with rfl | rfl
          · exact ⟨x1, 0, 1, rfl, b4 _ _ g1 (s3 _ _ (s2 _ _ f1)), .inl ⟨rfl, rfl⟩⟩
          · exact ⟨x2, 1, 0, rfl, b4 _ _ g2 (s3 _ _ f2), .inr ⟨rfl, rfl⟩⟩
        have l1 : a0 < 2 := by omega
        have l2 : a1 < 2 := by omega
        have hps : ps.length ≤ 3 := by omega
        have hos : os.length ≤ 6 := by omega
        have ePc := T4.ePc
        have eOt := T4.eOt
        clear f1 f2 f3 s1 s2 s3 b4
        refine go_lsr (SqL.of ePc) ?_
        refine lcList (K := K) (fun i => pCut (a0, ps.getD i 0)) (SqL.of ePc) (by rw [List.length_map]; omega) (fun _ _ => rfl) (fun _ => rfl) (fun i x K2 Q' hi hx s2 hq => ?_) (fun D1 K2 y1 nD1 s2 eD1 hall1 => ?_)
        · rw [List.getElem?_map] at hx
          obtain ⟨n, hn, rfl⟩ := Option.map_eq_some_iff.mp hx
          walk_at "go"
          rename_i t K3 nt s3 et
          refine hq _ _ (by tb_rel) ?_
          rw [List.getD_eq_getElem?_getD, hn]
          exact .tup (SqT.of et) (.cons (.str _) (.cons (.int _) .nil))
        · walk_at "go"
          refine lcList (K := K) (fun i => pCut (a1, os.getD i 0)) (SqL.of (s2 _ _ eOt)) (by rw [List.length_map]; omega) (fun _ _ => rfl) (fun _ => rfl) (fun i x K3 Q' hi hx s3 hq => ?_) (fun D2 K3 y2 nD2 s3 eD2 hall2 => ?_)
          · rw [List.getElem?_map] at hx
            obtain ⟨n, hn, rfl⟩ := Option.map_eq_some_iff.mp hx
            walk_at "go"
            rename_i t K4 nt s4 et
            refine hq _ _ (by tb_rel) ?_
            rw [List.getD_eq_getElem?_getD, hn]
            exact .tup (SqT.of et) (.cons (.str _) (.cons (.int _) .nil))
          · have z1 := hall1.len
            have z2 := hall2.len
            rw [List.length_map, List.length_range, List.length_map] at z1 z2
            have T6 := (T4.same s2).same s3
            have pT6 := T6.pot
            rw [List.length_map, range_cuts] at hall1 hall2
            walk_at "go"
            rename_i Cl K4 nCl s4 eCl
            have hcl : Dp K K4 (.ref Cl) (.list (((ps.map fun n => (a0, n)) ++ (os.map fun n => (a1, n))).map pCut)) := by
              refine .lst (SqL.of eCl) ?_
              rw [List.map_append]
              exact (((hall1.up s3).up s4).app (hall2.up s4))
            have cok : CutsOk ((ps.map fun n => (a0, n)) ++ (os.map fun n => (a1, n))) := fun c hc => by
              rcases List.mem_append.mp hc with hc | hc
              · obtain ⟨n, hn, rfl⟩ := List.mem_map.mp hc
                exact ⟨l1, (pp n hn).1, (pp n hn).2⟩
              · obtain ⟨n, hn, rfl⟩ := List.mem_map.mp hc
                exact ⟨l2, (po n hn).1, (po n hn).2⟩
            have cbal : Pm.wid ((ps.map fun n => (a0, n)) ++ (os.map fun n => (a1, n))) 0 = Pm.wid ((ps.map fun n => (a0, n)) ++ (os.map fun n => (a1, n))) 1 := by
              rw [Pm.wid_app, Pm.wid_app, wid_line, wid_line, wid_line, wid_line, pe]
              rcases ha with ⟨rfl, rfl⟩ | ⟨rfl, rfl⟩ <;> simp
            have cne : (ps.map fun n => (a0, n)) ++ (os.map fun n => (a1, n)) ≠ [] := fun z => by
              have := congrArg List.length z
              simp only [List.length_append, List.length_map, List.length_nil] at this
              omega
            have clen : (((ps.map fun n => (a0, n)) ++ (os.map fun n => (a1, n))).map pCut).length ≤ 1000 := by
              simp only [List.length_map, List.length_append]
              omega
            have T7 := T6.same s4
            generalize (ps.map fun n => (a0, n)) ++ (os.map fun n => (a1, n)) = cs at *
            refine ⟨p, .ref Cl, _, rfl, T7.pot, hcl, nl_cuts _, clen, fun Ml zs es K5 pm nMl eMl dz p5 b5 => ?_⟩
            obtain ⟨mc, pmc, rfl⟩ := perm_map_inv pCut pm cs rfl
            have T8 := T7.buu A b5 p5
            have hMp : Ml ≠ p := T7.pot.ne nMl
            have hMD : Ml ≠ D := fun z => by rw [z, T7.rows.at_] at nMl; cases nMl
            have hMq : Ml ∉ qs := fun z => by
              obtain ⟨j, hj⟩ := List.getElem?_of_mem z
              have hjl := (List.getElem?_eq_some_iff.mp hj).1
              obtain ⟨zs', e', _⟩ := T7.rows.row j Ml [] hj (by rw [List.getElem?_replicate, if_pos (by omega)])
              rw [e'] at nMl; cases nMl
            have mok : CutsOk mc := fun c hc => cok c (pmc.mem_iff.mp hc)
            have zl : zs.length = mc.length := by rw [dz.len, List.length_map]
            have P8 := T8.pot
            have B8 := T8.bu
            have R8 := T8.rows
            clear T8 T7 T6 T4 T pT6 pK hall1 hall2 hcl eCl eD1 eD2 ePc eOt hxa b5 s4 s3 s2 p5 p4 pm
            refine go_lsr (SqL.of eMl) ?_
            refine forList (K := K) (xs := zs) (fun i σ H' => ∃ (v9 v10 v11 v12 : Option V) (rr : List (List Pm.Cut)), σ = [some (.ref p), some (.ref D), some (.ref Pc), some (.ref Ot), v4, v5, v6, some (.ref xa), some (.ref Cl), v9, v10, v11, v12] ∧ Pot H' p ∧ Bu p H H' ∧ RowsAt K H' D qs rr ∧ H' Ml = some (.lst zs) ∧ DpAll K H' zs (mc.map pCut) ∧ rr.length = 1 + d ∧ (∀ r ∈ rr, r.length ≤ 5 ∧ CutsOk r ∧ Pm.size r ≤ 32) ∧ rr.flatten.Perm (mc.take i)) ⟨_, _, _, _, _, rfl, P8, B8, R8, eMl, dz, List.length_replicate, (fun r hr => by
              obtain rfl := List.eq_of_mem_replicate hr
              exact ⟨Nat.zero_le _, (fun c hc => by cases hc), by decide⟩), by simp⟩ (fun i σ H' h => by obtain ⟨_, _, _, _, _, _, _, _, _, h, _⟩ := h; exact SqL.of h) ?_ ?_
            · rintro i x σ K6 hi hx ⟨v9, v10, v11, v12, rr, rfl, p6, b6, R6, m6, d6, rl, rok, rp⟩
              clear P8 B8 R8 eMl dz
              obtain ⟨dd, hd1, hd2⟩ := d6.get hx
              rw [List.getElem?_map] at hd1
              obtain ⟨c, hc1, rfl⟩ := Option.map_eq_some_iff.mp hd1
              have hc := mok c (List.mem_of_getElem? hc1)
              have c4 := hc.2.2
              obtain ⟨t, rfl, ht⟩ := cut_at hd2
              have qrl := R6.len
              have eD6 := R6.at_
              walk_at "go"
              refine lcFilV (K := K) (xs := qs.map V.ref) (rr.map fun r => decide (r.length < 5) && decide (Pm.size r * c.2 ≤ 32)) (by rw [List.length_map, List.length_map]; exact qrl.symm) (SqL.of eD6) (by rw [List.length_map]; omega) (fun _ => rfl) (fun j x b K7 R hx hb s7 hR => ?_) (fun x K7 Q7 h => ?_) (fun Rm K7 nRm s7 eRm => ?_)
              · rw [List.getElem?_map] at hx hb
                obtain ⟨q1, hq1, rfl⟩ := Option.map_eq_some_iff.mp hx
                obtain ⟨r, hr1, rfl⟩ := Option.map_eq_some_iff.mp hb
                obtain ⟨us, eu, du⟩ := (R6.same s7).row j q1 r hq1 hr1
                have ul : us.length = r.length := by rw [du.len, List.length_map]
                have dr : Dp K K7 (.ref q1) (pRnd r) := .lst (SqL.of eu) du
                have rk := (rok r (List.mem_of_getElem? hr1)).2.1
                walk_at "go"
                have h0 := hR K7 (Same.refl _)
                by_cases h5 : r.length < 5
                · have u5 : us.length < 5 := by omega
                  rw [decide_eq_true h5, Bool.true_and] at h0
                  walk_at "go"
                  exact h0
                · have u5 : ¬ us.length < 5 := by omega
                  rw [decide_eq_false h5, Bool.false_and] at h0
                  walk_at "go"
                  exact h0
              · walk_at "go"
                exact h
              · have p7 := p6.same s7
                have R7 := R6.same s7
                have b7 := b6.trans (Bu.of s7 p)
                have m7 := s7 _ _ m6
                have d7 := d6.up s7
                have ht7 := Same.tup s7 ht
                have hRp : Rm ≠ p := p6.ne nRm
                have dR := pickB_dp (rr.map fun r => decide (r.length < 5) && decide (Pm.size r * c.2 ≤ 32)) R7.dp
                rw [pick_rds []] at dR
                have hRm : Dp K K7 (.ref Rm) (pRds (pickB rr (rr.map fun r => decide (r.length < 5) && decide (Pm.size r * c.2 ≤ 32)))) := .lst (SqL.of eRm) dR
                have lenR := pickB_eq (qs.map V.ref) rr (rr.map fun r => decide (r.length < 5) && decide (Pm.size r * c.2 ≤ 32)) (by rw [List.length_map]; exact qrl)
                have lenB := pickB_len (qs.map V.ref) (rr.map fun r => decide (r.length < 5) && decide (Pm.size r * c.2 ≤ 32))
                rw [List.length_map] at lenB
                clear s7 R6 b6 m6 d6 ht hd2 eD6 p6
                walk_at "go"
                rename_i l8 K8 n8 s8 e8
                refine go_eqD (d := pRds (pickB rr (rr.map fun r => decide (r.length < 5) && decide (Pm.size r * c.2 ≤ 32)))) (e := .list []) (hRm.up s8) (.lst (SqL.of e8) .nil) (shaped_rds _) rfl ?_
                rw [eqv_nil]
                walk_at "go"
                cases hem : (pickB rr (rr.map fun r => decide (r.length < 5) && decide (Pm.size r * c.2 ≤ 32))).isEmpty with
                | true =>
                  walk_at "go"
                  rename_i t1 K9 n9 s9 e9 t2 K10 n10 s10 e10 r1 K11 n11 s11 e11 r2 K12 n12 s12 e12
                  exact q _ [[(0, 2), (1, 2)]] _ (.lst (SqL.of e12) (.cons (.lst (SqL.of (s12 _ _ e11)) (.cons (tE (by tb_rel)) (.cons (tN (by tb_rel)) .nil))) .nil)) (by decide) (by tb_rel) (by tb_rel)
                | false =>
                  have ne : pickB (qs.map V.ref) (rr.map fun r => decide (r.length < 5) && decide (Pm.size r * c.2 ≤ 32)) ≠ [] := fun z => by
                    rw [z, List.length_nil] at lenR
                    have : pickB rr (rr.map fun r => decide (r.length < 5) && decide (Pm.size r * c.2 ≤ 32)) = [] := List.eq_nil_of_length_eq_zero lenR.symm
                    rw [this] at hem
                    cases hem
                  have le : (pickB (qs.map V.ref) (rr.map fun r => decide (r.length < 5) && decide (Pm.size r * c.2 ≤ 32))).length ≤ 1000 := by omega
                  walk_at "go"
                  rename_i v K9 hv p9 b9
                  obtain ⟨j, hj1, hj2⟩ := pickB_mem hv
                  rw [List.getElem?_map] at hj1 hj2
                  obtain ⟨q1, hq1, rfl⟩ := Option.map_eq_some_iff.mp hj1
                  obtain ⟨r, hr1, hrb⟩ := Option.map_eq_some_iff.mp hj2
                  simp only [Bool.and_eq_true, decide_eq_true_eq] at hrb
                  obtain ⟨ws, ew⟩ := (p7.same s8).lst
                  have R9 := (R7.same s8).bu b9 ew A.a6 A.a9
                  obtain ⟨us, eu, du⟩ := R9.row j q1 r hq1 hr1
                  have ul : us.length = r.length := by rw [du.len, List.length_map]
                  have hq1m := List.mem_of_getElem? hq1
                  walk_at "go"
                  refine go_app eu (by unfold sizeLine; omega) ?_
                  have dt : Dp K K9 (.ref t) (pCut c) := .tup (bu_sqt b9 (p7.same s8) (Same.tup s8 ht7)) (.cons (.str _) (.cons (.int _) .nil))
                  have R10 := R9.app nd nDq hq1 hr1 eu du dt
                  have bs : Bu q1 K9 (upd K9 q1 (.lst (us ++ [V.ref t]))) := Bu.set
                  have d9 := (d7.up s8).bu (nl_cuts _) b9 ew
                  refine ⟨_, _, _, _, _, rfl, p9.upd (fun z => A.a9 (z ▸ hq1m)), fun x o nx e => ?_, R10, bs _ _ (fun z => hMq (z ▸ hq1m)) (b9 _ _ hMp (s8 _ _ m7)), d9.bu (nl_cuts _) bs eu, by rw [List.length_set]; exact rl, fun r' hr' => ?_, ?_⟩
                  · rw [upd_ne (ne_of_none e (qfree q1 hq1m))]
                    exact (b7.trans ((Bu.of s8 p).trans b9)) x o nx e
                  · rcases List.mem_or_eq_of_mem_set hr' with h | rfl
                    · exact rok r' h
                    · obtain ⟨_, k2, _⟩ := rok r (List.mem_of_getElem? hr1)
                      refine ⟨by rw [List.length_append]; simp; omega, fun z hz => ?_, ?_⟩
                      · rcases List.mem_append.mp hz with h | h
                        · exact k2 z h
                        · obtain rfl : z = c := by simpa using h
                          exact hc
                      · rw [Pm.size_app]
                        simp only [Pm.size, Nat.mul_one]
                        exact hrb.2
                  · refine (flat_set hr1).trans ?_
                    rw [List.take_add_one, hc1]
                    exact List.Perm.append_right _ rp
            · rintro σ K6 ⟨v9, v10, v11, v12, rr, rfl, p6, b6, R6, m6, d6, rl, rok, rp⟩
              rw [zl, List.take_length] at rp
              have qrl := R6.len
              have eD6 := R6.at_
              walk_at "go"
              refine lcFilV (K := K) (xs := qs.map V.ref) (rr.map fun r => !r.isEmpty) (by rw [List.length_map, List.length_map]; exact qrl.symm) (SqL.of eD6) (by rw [List.length_map]; omega) (fun _ => rfl) (fun j x b K7 R hx hb s7 hR => ?_) (fun x K7 Q7 h => ?_) (fun Rm K7 nRm s7 eRm => ?_)
              · rw [List.getElem?_map] at hx hb
                obtain ⟨q1, hq1, rfl⟩ := Option.map_eq_some_iff.mp hx
                obtain ⟨r, hr1, rfl⟩ := Option.map_eq_some_iff.mp hb
                obtain ⟨us, eu, du⟩ := (R6.same s7).row j q1 r hq1 hr1
                walk_at "go"
                rename_i l8 K8 n8 s8 e8
                refine go_neD (d := pRnd r) (e := .list []) (.lst (SqL.of (s8 _ _ eu)) (du.up s8)) (.lst (SqL.of e8) .nil) (shaped_rnd r) rfl ?_
                rw [eqv_nil1]
                walk_at "go"
                exact hR _ s8
              · walk_at "go"
                exact h
              · have dR := pickB_dp (rr.map fun r => !r.isEmpty) (R6.same s7).dp
                rw [pick_rds [], pickB_map] at dR
                exact q _ _ _ (.lst (SqL.of eRm) dR) (rounds_ok (by omega) rok (rp.trans pmc) cne cbal) (by tb_rel) (by tb_rel)
end
end T
set_option Elab.async false
set_option maxRecDepth 100000
set_option maxHeartbeats 4000000
namespace Mv
open PySem PySem.Spec PyProof.Rows L2
/-- a method's two keywords in the other sequence -/
def kSwM {α : Type} (vs zs : List α) : List α := match vs, zs with
  | [x], [a, b] => [x, b, a]
  | vs, zs => vs ++ zs
theorem kSwM_rel {vs zs : List V} {us ws : List Value} (h1 : Vals vs us) (h2 : Vals zs ws) : Vals (kSwM vs zs) (kSwM us ws) := by
  cases h1 with
  | nil => exact h2
  | cons x h =>
    cases h with
    | cons y h => exact Vals.append (Paired.cons x (Paired.cons y h)) h2
    | nil =>
      cases h2 with
      | nil => exact .cons x .nil
      | cons a h =>
        cases h with
        | nil => exact .cons x (.cons a .nil)
        | cons b h =>
          cases h with
          | nil => exact .cons x (.cons b (.cons a .nil))
          | cons c h => exact .cons x (.cons a (.cons b (.cons c h)))
end Mv
namespace T
open PySem L2 Mv
abbrev s_rright : Stmt := top 45
theorem sc_rright : FnScope ["_law_made", "_law_rows", "_law_k", "_law_row", "_law_many", "_law_glyph", "_law_column_row"] ["_law_made", "_law_rows", "_law_k"] (defScope s_rright) := ⟨rfl, rfl, rfl, by decide +kernel, rfl, by decide +kernel, by decide +kernel⟩
section
variable {P : Program} {w : World} {K : PySem.W.Frag} {mg : Str → Option Value} {base : Heap} {C AX : Addr}
/-- items that can be shown -/
theorem smN {n : Nat} (h : n < 10 ^ 400) : Sma 3 4000 (.int (n : Int)) := (Sma.int h).mono (by decide) (by decide)
theorem smP {a b : Nat} (ha : a < 10 ^ 400) (hb : b < 10 ^ 400) : Sma 3 4000 (.tuple [.int (a : Int), .int (b : Int)]) := by
  refine (Sma.tuple (k := 0) (W := 1920) (ds := [.int (a : Int), .int (b : Int)]) fun d hd => ?_).mono (by decide) (Nat.le_of_ble_eq_true rfl)
  simp only [List.mem_cons, List.not_mem_nil, or_false] at hd
  rcases hd with rfl | rfl
  · exact Sma.int ha
  · exact Sma.int hb
theorem sl0 : ∀ d ∈ ([] : List PyData), Sma 3 4000 d := fun d hd => by cases hd
theorem sl1 {d : PyData} {ds : List PyData} (h : Sma 3 4000 d) (hs : ∀ d ∈ ds, Sma 3 4000 d) : ∀ x ∈ d :: ds, Sma 3 4000 x := fun x hx => by
  rcases List.mem_cons.mp hx with rfl | hx
  · exact h
  · exact hs x hx
theorem shL {ds : List PyData} (h : ∀ d ∈ ds, Sma 3 4000 d) (hl : ds.length ≤ 9) : Shw (.list ds) := ((Sma.list h).mono (Nat.le_refl _) (Nat.mul_le_mul_right _ hl)).shw (by decide) (by decide)
theorem le_big {n : Nat} (h : n ≤ 32) : n < 10 ^ 400 := Nat.lt_of_le_of_lt h (by decide +kernel)
theorem go_mkp {H : Hp} {v : V} {rs : List (List Pm.Cut)} {m : Str} {sp : Sp} {n : Nat} {gV : List V → List V → List V} {t : TA} {σ : L2.St} {Q : VK} (h : PlanAt K C H v rs) (m1 : m ≠ "own_rounds") (m2 : m ≠ "own_parts") (m3 : m ≠ "own_growth") (k : t σ H (KnR n sp gV [v] Q)) : MkR C m n sp gV t σ Q v H := by
  obtain ⟨a, dx, fs, rfl, ea, hl⟩ := plan_obj h
  exact go_mkr ea (hl m m1 m2 m3) k
theorem go_neSS {H : Hp} {a : Str} {Q : VK} (q : Q (.bl false) H) : rNe (.str a) (.str a) H Q := ⟨rfl, by rw [decide_eq_true rfl]; exact q⟩
theorem go_eqSS {H : Hp} {a : Str} {Q : VK} (q : Q (.bl true) H) : rEq (.str a) (.str a) H Q := ⟨rfl, by rw [decide_eq_true rfl]; exact q⟩
def sp_rright (K : PySem.W.Frag) (C : Addr) : Sp := fun vs H Q _ => ∃ (m v : V) (rs : List (List Pm.Cut)) (k : Nat), vs = [m, v, .int k] ∧ PlanAt K C H m rs ∧ Dp K H v (pRds rs) ∧ k < rs.length ∧ ∀ H', Same H H' → Q (.bl true) H'
theorem c_rright {K : PySem.W.Frag} {C : Addr} {m v : V} {rs : List (List Pm.Cut)} {k : Nat} {H : Hp} {Q : VK} {E : XK} (h0 : PlanAt K C H m rs) (h1 : Dp K H v (pRds rs)) (h2 : k < rs.length) (q : ∀ H', Same H H' → Q (.bl true) H') : sp_rright K C [m, v, .int k] H Q E := ⟨_, _, _, _, rfl, h0, h1, h2, q⟩
local macro_rules | `(tactic| tb_rel) => `(tactic| repeat (first
  | with_reducible assumption
  | with_reducible exact Dp.int _
  | with_reducible exact Dp.str _
  | with_reducible exact Dp.bl _
  | with_reducible exact Dp.non
  | (with_reducible apply SqT.of; with_reducible assumption)
  | (with_reducible apply SqL.of; with_reducible assumption)
  | (with_reducible apply up_dp; with_reducible assumption)
  | (with_reducible apply up_sqt; with_reducible assumption)
  | (with_reducible apply up_sql; with_reducible assumption)
  | (with_reducible apply up_get; with_reducible assumption)
  | (with_reducible apply up_pot; with_reducible assumption)
  | with_reducible exact Same.refl _
  | with_reducible exact Bu.refl _ _
  | (with_reducible apply up_same; with_reducible assumption)
  | (with_reducible apply up_bu; with_reducible assumption)
  | (with_reducible apply bu_bu; with_reducible assumption)
  | (with_reducible apply free_of; with_reducible assumption)
  | (with_reducible apply mi_fr; with_reducible assumption; (focus (tb_rel; done)))
  | (with_reducible apply mi_dp; with_reducible assumption)
  | (with_reducible apply mi_sqt; with_reducible assumption)
  | (with_reducible apply mi_sql; with_reducible assumption)
  | (with_reducible apply mi_gett; with_reducible assumption)
  | (with_reducible apply mi_getl; with_reducible assumption)
  | (with_reducible apply mi_pot; with_reducible assumption)
  | (with_reducible apply mi_refl; with_reducible assumption; (focus (with_unfolding_all exact rfl)))
  | (with_reducible apply up_mi; with_reducible assumption)
  | (with_reducible apply mi_mi; with_reducible assumption)
  | (with_reducible apply mi_bu; with_reducible assumption)
  | (with_reducible apply up_plan; with_reducible assumption)
  | (with_reducible apply bu_plan; with_reducible assumption; (focus (tb_rel; done)))
  | (with_reducible apply mi_plan; with_reducible assumption; (focus (lcg_src; done)))
  | (with_reducible apply up_bd; with_reducible assumption)
  | (with_reducible apply bd_bd; with_reducible assumption)
  | (with_reducible apply bd_same; with_reducible assumption; (focus (tb_rel; done)))
  | (with_reducible apply bd_bup; with_reducible assumption; (focus (tb_rel; done)))
  | (with_reducible apply bu_getd; with_reducible assumption; (focus (tb_rel; done)))
  | (with_reducible apply bd_dp; with_reducible assumption)
  | (with_reducible apply bd_sqt; with_reducible assumption)
  | (with_reducible apply bd_sql; with_reducible assumption)
  | (with_reducible apply bd_gett; with_reducible assumption)
  | (with_reducible apply bd_getl; with_reducible assumption)
  | (with_reducible apply bd_geti; with_reducible assumption)
  | (with_reducible apply bd_pot; with_reducible assumption)
  | (with_reducible apply pf_dp; with_reducible assumption; (focus (tb_rel; done)); (focus (lcg_src; done)))
  | (with_reducible apply bu_gett; with_reducible assumption; (focus (tb_rel; done)))
  | (with_reducible apply bu_geti; with_reducible assumption; (focus (tb_rel; done)))
  | (with_reducible apply bu_get; with_reducible assumption; (focus (tlg_ne; done)))
  | (with_reducible apply bu_sqt; with_reducible assumption; (focus (tb_rel; done)))
  | (with_reducible apply bu_sql; with_reducible assumption; (focus (tlg_ne; done)))
  | (with_reducible apply bu_dp; with_reducible assumption; (focus (tb_rel; done)); (focus (lcg_src; done)))
  | fail "up"))
local macro_rules | `(tactic| tlg_ne) => `(tactic| first
  | with_reducible assumption
  | (with_reducible apply pot_ne; with_reducible assumption; (focus (tb_rel; done)))
  | fail "ne")
local macro_rules | `(tactic| lcg_src) => `(tactic| first
  | with_reducible assumption
  | with_unfolding_all exact rfl
  | with_unfolding_all decide
  | with_unfolding_all exact Nat.ne_of_beq_eq_false rfl
  | (apply_assumption; done)
  | omega
  | (simp; done)
  | (simp; omega)
  | fail "sd")
local macro_rules | `(tactic| lcg_sub) => `(tactic| first
  | (unfold sizeLine; omega)
  | (simp only [List.length_cons, List.length_nil, List.length_append, List.length_map, List.length_replicate, List.length_take, List.length_drop]; unfold sizeLine; omega)
  | (simp; unfold sizeLine; omega)
  | fail "sz")
local macro_rules | `(tactic| nest_cls) => `(tactic| first
  | (tb_rel; done)
  | (with_reducible apply nmI; (focus (tb_rel; done)))
  | (with_reducible apply d_tup; (focus (tb_rel; done)); (focus (lsm_bools; done)))
  | (with_reducible apply d_lst; (focus (tb_rel; done)); (focus (lsm_bools; done)))
  | fail "dp")
local macro_rules | `(tactic| lsm_bools) => `(tactic| repeat (first
  | with_reducible exact DpAll.nil
  | with_reducible assumption
  | (with_reducible apply DpAll.cons; (focus (nest_cls; done)))
  | fail "dpa"))
local macro_rules | `(tactic| none_booked) => `(tactic| first | with_unfolding_all exact rfl | (with_reducible apply atI_nat; with_reducible assumption) | fail "ix")
local macro_rules | `(tactic| walk_at "go") => `(tactic| repeat (first
  | (focus (with_reducible refine go_var (v := ?_) ?_ ?_; rotate_left; (focus (with_unfolding_all exact rfl))))
  | with_reducible refine go_seq ?_
  | with_reducible refine go_cN ?_
  | with_reducible refine go_c ?_
  | with_reducible refine go_op ?_
  | with_reducible refine go_nil ?_
  | with_reducible refine go_cons ?_
  | with_reducible refine go_cb ?_
  | with_reducible refine go_call0 ?_
  | with_reducible refine go_asg ?_
  | (focus (with_reducible refine go_gname (σ' := ?_) ?_ ?_; rotate_left; (focus (simp only [List.set_cons_succ, List.set_cons_zero]; exact rfl))))
  | with_reducible refine go_par ?_
  | with_reducible refine go_par3 ?_
  | (focus (with_reducible refine go_par3k (σ' := ?_) ?_ ?_; rotate_left; (focus (simp only [List.set_cons_succ, List.set_cons_zero]; exact rfl))))
  | with_reducible refine go_bm ?_
  | (with_reducible apply go_bmL; (focus (tb_rel; done)))
  | (with_reducible apply go_fdX; (focus (with_reducible assumption; done)))
  | (with_reducible apply go_rI; (focus (with_reducible assumption; done)))
  | (focus (with_reducible refine go_par2 (σ' := ?_) ?_ ?_; rotate_left; (focus (simp only [List.set_cons_succ, List.set_cons_zero]; exact rfl))))
  | with_reducible refine go_ifs ?_
  | with_reducible refine go_test ?_
  | with_reducible refine go_tb ?_
  | with_reducible refine go_asb ?_
  | with_reducible refine go_asi ?_
  | with_reducible refine go_ret ?_
  | with_reducible refine go_retn ?_
  | with_reducible refine go_drop ?_
  | with_reducible refine go_next ?_
  | with_reducible refine go_and ?_
  | with_reducible refine go_or ?_
  | with_reducible refine go_not ?_
  | with_reducible refine go_andv ?_
  | with_reducible refine go_orv ?_
  | with_reducible refine go_notv ?_
  | with_reducible refine go_ife ?_
  | with_reducible refine go_chain ?_
  | with_reducible refine go_if1 ?_
  | with_reducible refine go_if0 ?_
  | with_reducible refine go_ifn1 ?_
  | with_reducible refine go_ifn0 ?_
  | (with_reducible apply go_ift; (focus (first | with_reducible rfl | with_reducible assumption | omega)))
  | (with_reducible apply go_ifnt; (focus (first | with_reducible rfl | with_reducible assumption | omega)))
  | (with_reducible apply go_iff; (focus (first | with_reducible assumption | omega)))
  | (with_reducible apply go_ifnf; (focus (first | with_reducible assumption | omega)))
  | with_reducible refine go_un ?_
  | with_reducible refine go_tup ?_
  | with_reducible refine go_lst ?_
  | (with_reducible apply go_newt; (focus (lcg_sub; done)); intros)
  | (with_reducible apply go_newl; (focus (lcg_sub; done)); intros)
  | with_reducible refine go_meth ?_
  | with_reducible refine go_for ?_
  | with_reducible refine go_lc ?_
  | with_reducible refine go_irng1 ?_
  | with_reducible refine go_irng2 ?_
  | with_reducible refine go_ilist ?_
  | with_reducible refine go_itup ?_
  | with_reducible refine go_izip ?_
  | with_reducible refine go_ienum ?_
  | (with_reducible apply go_rg1; (focus (lcg_src; done)))
  | (with_reducible apply go_rg2; (focus (lcg_src; done)); (focus (lcg_src; done)))
  | (with_reducible apply go_lsr; (focus (tb_rel; done)))
  | (with_reducible apply go_tpr; (focus (tb_rel; done)))
  | (with_reducible apply go_zpr; (focus (tb_rel; done)); (focus (tb_rel; done)))
  | (with_reducible apply go_zprT; (focus (tb_rel; done)); (focus (tb_rel; done)))
  | (with_reducible apply go_enrL; (focus (tb_rel; done)))
  | (with_reducible apply go_enrT; (focus (tb_rel; done)))
  | with_reducible refine go_prop ?_
  | with_reducible refine go_knr0 ?_
  | (with_reducible apply go_knr; (focus (with_unfolding_all exact rfl; done)); (focus (simp only [kSw2, kRev3, kId, List.nil_append, List.cons_append]; exact rfl)))
  | with_reducible refine go_mkn ?_
  | (with_reducible apply go_mkr; (focus (tb_rel; done)); (focus (with_unfolding_all exact rfl; done)))
  | with_reducible refine go_fld ?_
  | (with_reducible apply go_flr; (focus (tb_rel; done)); (focus (with_reducible assumption; done)); (focus (with_reducible assumption; done)); (focus (with_unfolding_all exact rfl; done)))
  | (with_reducible apply go_prr; (focus (tb_rel; done)))
  | (with_reducible apply go_mer; (focus (tb_rel; done)); (focus (with_unfolding_all exact rfl; done)))
  | with_reducible refine go_sfld ?_
  | (with_reducible apply go_sfr; (focus (tb_rel; done)); (focus (with_reducible assumption; done)); (focus (with_reducible assumption; done)); (focus (with_unfolding_all exact Nat.le_of_ble_eq_true rfl; done)); (focus (with_unfolding_all exact rfl; done)); intros)
  | with_reducible refine go_revt ?_
  | with_reducible refine go_make0 ?_
  | (focus (with_reducible refine go_aug (x := ?_) ?_ ?_; rotate_left; (focus (with_unfolding_all exact rfl))))
  | (focus (with_reducible refine go_augk (σ' := ?_) ?_ ?_; rotate_left; (focus (simp only [List.set_cons_succ, List.set_cons_zero]; exact rfl))))
  | with_reducible refine go_min2 ?_
  | with_reducible refine go_int1 ?_
  | with_reducible refine go_max2 ?_
  | with_reducible refine go_intB ?_
  | with_reducible refine go_absN ?_
  | with_reducible refine go_isN ?_
  | with_reducible refine go_notN ?_
  | (with_reducible apply go_rvt; (focus (tb_rel; done)); (focus (simp only [List.reverse_cons, List.reverse_nil, List.nil_append, List.cons_append]; exact rfl)); intros)
  | (with_reducible apply go_reprNm; (focus (tb_rel; done)); (focus (with_reducible assumption; done)))
  | (with_reducible apply go_reprPr; (focus (nest_cls; done)); (focus (lcg_src; done)); (focus (lcg_src; done)))
  | with_reducible refine go_sl ?_
  | with_reducible refine go_part ?_
  | with_reducible refine go_nopart ?_
  | (with_reducible apply go_gtup; (focus (tb_rel; done)); (focus (with_unfolding_all exact rfl; done)))
  | (with_reducible apply go_gunl; (focus (tb_rel; done)); (focus (with_unfolding_all exact rfl; done)))
  | with_reducible refine go_gcons ?_
  | with_reducible refine go_gnil ?_
  | with_reducible refine go_addN ?_
  | with_reducible refine go_ltN ?_
  | with_reducible refine go_leN ?_
  | with_reducible refine go_gtN ?_
  | with_reducible refine go_geN ?_
  | (with_reducible apply go_subN; (focus (omega; done)))
  | with_reducible refine go_rI0 ?_
  | (with_reducible apply go_mulN; (focus (omega; done)))
  | (with_reducible apply go_modN; (focus (omega; done)))
  | (with_reducible apply go_divN; (focus (omega; done)))
  | (with_reducible apply go_powN; (focus (with_unfolding_all decide; done)))
  | with_reducible refine go_rU ?_
  | with_reducible refine go_eqN ?_
  | with_reducible refine go_neN ?_
  | with_reducible refine go_isB ?_
  | with_reducible refine go_notB ?_
  | with_reducible refine go_eqS ?_
  | with_reducible refine go_neS ?_
  | with_reducible refine go_eqB ?_
  | with_reducible refine go_eqI ?_
  | with_reducible refine go_neI ?_
  | (with_reducible apply go_ixt; (focus (tb_rel; done)); (focus (none_booked; done)))
  | (with_reducible apply go_ixl; (focus (tb_rel; done)); (focus (none_booked; done)))
  | (with_reducible apply go_lent; (focus (tb_rel; done)))
  | (with_reducible apply go_lenNm; (focus (tb_rel; done)))
  | (with_reducible apply go_isiNm; (focus (tb_rel; done)))
  | (with_reducible apply go_lenl; (focus (tb_rel; done)))
  | (with_reducible apply go_catA; (focus (tb_rel; done)); (focus (tb_rel; done)); (focus (lcg_sub; done)); intros)
  | (with_reducible apply go_slaT; (focus (tb_rel; done)); intros)
  | (with_reducible apply go_slaD; (focus (tb_rel; done)); intros)
  | (with_reducible apply go_rep; (focus (tb_rel; done)); (focus (lcg_src; done)); intros)
  | (with_reducible apply go_tupofl; (focus (tb_rel; done)); intros)
  | (with_reducible apply go_sllT; (focus (tb_rel; done)); intros)
  | (with_reducible apply go_sllD; (focus (tb_rel; done)); intros)
  | (with_reducible apply go_cat; (focus (tb_rel; done)); (focus (tb_rel; done)); (focus (lcg_sub; done)); intros)
  | (with_reducible apply go_eqP; with_reducible assumption; (focus (tb_rel; done)); (focus (tb_rel; done)))
  | (with_reducible apply go_neP; with_reducible assumption; (focus (tb_rel; done)); (focus (tb_rel; done)))
  | (with_reducible apply go_mep; (focus (tb_rel; done)); (focus decide); (focus decide); (focus decide))
  | (with_reducible apply c_lparts; (focus (nest_cls; done)); (focus (lcg_src; done)); intros)
  | (with_reducible apply c_lplace; (focus (nest_cls; done)); (focus (lcg_src; done)); intros)
  | (with_reducible apply c_lprod; (focus (nest_cls; done)); (focus (lcg_src; done)); intros)
  | (with_reducible apply c_parts; (focus (tb_rel; done)); (focus (lcg_src; done)); intros)
  | (with_reducible apply c_placeof; (focus (tb_rel; done)); (focus (lcg_src; done)); (focus (lcg_src; done)); intros)
  | (with_reducible apply c_rright; (focus (tb_rel; done)); (focus (nest_cls; done)); (focus (lcg_src; done)); intros)
  | (with_reducible apply c_signat; (focus (tb_rel; done)); (focus (lcg_src; done)); (focus (nest_cls; done)); (focus (lcg_src; done)); (focus (lcg_src; done)); intros)
  | (with_reducible apply c_signs; (focus (tb_rel; done)); (focus (lcg_src; done)); intros)
  | with_reducible refine go_dget ?_
  | with_reducible refine go_dgr2 ?_
  | with_reducible refine go_dput ?_
  | with_reducible refine go_dpr2 ?_
  | with_reducible refine go_dpt ?_
  | with_reducible refine go_pnil ?_
  | with_reducible refine go_pcons ?_
  | with_reducible refine go_gsub ?_
  | with_reducible refine go_sir ?_
  | with_reducible refine go_lrg ?_
  | with_reducible refine go_rgt2 ?_
  | with_reducible refine go_rge ?_
  | with_reducible refine go_revl ?_
  | (with_reducible apply go_dgk; (focus (tb_rel; done)); with_reducible assumption)
  | (with_reducible apply go_dpk; (focus (tb_rel; done)); (focus (lcg_sub; done)); intros)
  | (with_reducible apply go_disp; intros)
  | (with_reducible apply go_dsk2; (focus (tb_rel; done)); intros)
  | (with_reducible apply go_lrr; (focus (omega; done)); (focus (omega; done)); intros)
  | (with_reducible apply go_rvl; (focus (tb_rel; done)); intros)
  | (with_reducible apply go_knr; (focus (with_unfolding_all exact rfl; done)); (focus (simp only [kSwM]; exact rfl)))
  | (with_reducible apply go_mkp; (focus (tb_rel; done)); (focus decide); (focus decide); (focus decide))
  | with_reducible refine go_cv ?_
  | with_reducible refine go_cvr ?_
  | with_reducible refine go_mkr1 ?_
  | with_reducible refine go_cma ?_
  | with_reducible refine go_cmk ?_
  | with_reducible refine go_cmr ?_
  | with_reducible refine go_ckr ?_
  | (with_reducible apply go_mkL; (focus (with_unfolding_all exact rfl)))
  | (with_reducible apply go_cmv; (focus (with_unfolding_all exact rfl)); (focus (simp only [gApp, kId, List.nil_append, List.cons_append, List.append_nil]; exact rfl)))
  | (with_reducible apply go_ckv; (focus (with_unfolding_all exact rfl)); (focus (simp only [gApp, kId, List.nil_append, List.cons_append, List.append_nil]; exact rfl)))
  | fail "go"))
theorem ok_rright {f : Addr} {fd : FuncData} (F : Df K "_law_round_right" "_law_round_right" s_rright [] f fd) (B : Blt mg) (cPd : Ca P w K mg base 1 "_law_product" (sp_lprod K) []) (cPts : Ca P w K mg base 2 "_law_parts" (sp_lparts K) []) (cPc2 : Ca P w K mg base 1 "_law_place" (sp_lplace K) []) (cSi : Me P w K mg base 5 C "signs" (sp_signs K C) []) (cSiK : MeK P w K mg base 5 C "signs" (sp_signs K C) ["phase"] kId) (cPa : Me P w K mg base 4 C "parts" (sp_parts K C) []) (cPaK : MeK P w K mg base 4 C "parts" (sp_parts K C) ["phase"] kId)
    (cPo : Me P w K mg base 7 C "place_of" (sp_placeof K C) []) (cPoK : MeK P w K mg base 7 C "place_of" (sp_placeof K C) ["sign", "phase"] kSwM) (cSa : Me P w K mg base 4 C "sign_at" (sp_signat K C) []) (cSaK : MeK P w K mg base 4 C "sign_at" (sp_signat K C) ["pair", "phase"] kSwM) : FnG P w K mg base 8 f fd ["_law_made", "_law_rows", "_law_k"] (sp_rright K C) := by
  refine dfG F sc_rright (fun vs H Q E h => ?_) (fun cdv A outer s H vs Q E hr ga h => ?_)
  · obtain ⟨m, v, rs, k, rfl, _⟩ := h
    rfl
  · obtain ⟨m, v, rs, k, rfl, hm, hv, hk, q⟩ := h
    obtain ⟨a, xs, rfl, hs, ha⟩ := hv.lstE
    obtain ⟨x, hx, hdx⟩ := ha.got (i := k) (by rw [List.getElem?_map, rs_get hk]; rfl)
    have okr := hm.ok.rnd k
    have cok : CutsOk (Pm.rnd rs k) := okr.2.2.1
    have w32 := hm.ok.W32 k
    have s32 := hm.ok.S32 k
    have eS : Pm.S rs k = Pm.size (Pm.rnd rs k) := rfl
    have e0 : Pm.W rs 0 k = Pm.wid (Pm.rnd rs k) 0 := rfl
    have e1 : Pm.W rs 1 k = Pm.wid (Pm.rnd rs k) 1 := rfl
    have hsz : Pm.size (Pm.rnd rs k) < 2 ^ 62 := Nat.lt_of_le_of_lt s32 (by decide)
    refine ⟨_, (pss_cons (ps_set (i := 3) sc_rright.nd rfl (Or.inl rfl) (pe_ix ix_list' (pv 1) (pv 2) (fun _ _ => rfl)))
  (pss_cons (ps_set (i := 4) sc_rright.nd rfl (Or.inl rfl) (pe_ca cPd hr (by decide) (by rfl) (pa_cons (pv 3) pa_nil)))
  (pss_cons (ps_if (pt_cmpR op_ne (pe_callB (call_reprD' ga hr) (by rfl) B.repr bt_repr (pa_cons (pe_lst (pa_cons (pe_me cSi hr (by decide) (pv 0) (pa_cons (pv 2) pa_nil)) (pa_cons (pe_mek cSiK hr (by decide) (pv 0) (pk_cons (pv 2) pk_nil)) (pa_cons (pe_me cPa hr (by decide) (pv 0) (pa_cons (pv 2) pa_nil)) pa_nil)))) pa_nil)) (pe_callB (call_reprD' ga hr) (by rfl) B.repr bt_repr (pa_cons (pe_lst (pa_cons (pv 4) (pa_cons (pv 4) (pa_cons (pe_ca cPts hr (by decide) (by rfl) (pa_cons (pv 3) pa_nil)) pa_nil)))) pa_nil)) (nomark _))
  (pss_one (ps_ret pe_bl))
  pss_nil)
  (pss_cons (ps_for PassesOwn.never rfl (pi_range1 (by rfl) B.range (pa_cons (pv 4) pa_nil)) (pg_name (i := 5) sc_rright.nd rfl (Or.inl rfl))
  (pss_cons (ps_set (i := 6) sc_rright.nd rfl (Or.inl rfl) (pe_ca cPc2 hr (by decide) (by rfl) (pa_cons (pv 3) (pa_cons (pv 5) pa_nil))))
  (pss_cons (ps_if (pt_cmpR op_ne (pe_callB (call_reprD' ga hr) (by rfl) B.repr bt_repr (pa_cons (pe_lst (pa_cons (pe_me cPo hr (by decide) (pv 0) (pa_cons (pv 2) (pa_cons (pv 5) pa_nil))) (pa_cons (pe_mek cPoK hr (by decide) (pv 0) (pk_cons (pv 5) (pk_cons (pv 2) pk_nil))) pa_nil))) pa_nil)) (pe_callB (call_reprD' ga hr) (by rfl) B.repr bt_repr (pa_cons (pe_lst (pa_cons (pv 6) (pa_cons (pv 6) pa_nil))) pa_nil)) (nomark _))
  (pss_one (ps_ret pe_bl))
  pss_nil)
  (pss_one (ps_if (pt_cmpR op_ne (pe_callB (call_reprD' ga hr) (by rfl) B.repr bt_repr (pa_cons (pe_lst (pa_cons (pe_me cSa hr (by decide) (pv 0) (pa_cons (pv 2) (pa_cons (pv 6) pa_nil))) (pa_cons (pe_mek cSaK hr (by decide) (pv 0) (pk_cons (pv 6) (pk_cons (pv 2) pk_nil))) pa_nil))) pa_nil)) (pe_callB (call_reprD' ga hr) (by rfl) B.repr bt_repr (pa_cons (pe_lst (pa_cons (pv 5) (pa_cons (pv 5) pa_nil))) pa_nil)) (nomark _))
  (pss_one (ps_ret pe_bl))
  pss_nil)))))
  (pss_one (ps_ret (pe_cmpR op_eq (pe_callB (call_reprD' ga hr) (by rfl) B.repr bt_repr (pa_cons (pe_mek cPaK hr (by decide) (pv 0) (pk_cons (pv 2) pk_nil)) pa_nil)) (pe_callB (call_reprD' ga hr) (by rfl) B.repr bt_repr (pa_cons (pe_ca cPts hr (by decide) (by rfl) (pa_cons (pv 3) pa_nil)) pa_nil)) (nomark _)))))))), ?_⟩
    refine go_start (σ := [some _, some _, some _, none, none, none, none]) rfl ?_
    walk_at "go"
    rename_i t1 ht1 l1 H1 nl1 s1 el1
    have dL : Dp K H1 (.ref l1) (.list [.int (Pm.S rs k : Nat), .int (Pm.S rs k : Nat), .tuple [.int (Pm.W rs 0 k : Nat), .int (Pm.W rs 1 k : Nat)]]) := .lst (SqL.of el1) (.cons (.int _) (.cons (.int _) (.cons (.tup (Same.tup s1 ht1) (.cons (.int _) (.cons (.int _) .nil))) .nil)))
    have sh1 : Shw (.list [.int (Pm.S rs k : Nat), .int (Pm.S rs k : Nat), .tuple [.int (Pm.W rs 0 k : Nat), .int (Pm.W rs 1 k : Nat)]]) := shL (sl1 (smN (le_big s32)) (sl1 (smN (le_big s32)) (sl1 (smP (le_big w32.1) (le_big w32.2)) sl0))) (Nat.le_of_ble_eq_true rfl)
    refine go_reprD dL sh1 ?_
    walk_at "go"
    rename_i t2 H2 s2 e2 l3 H3 n3 s3 e3
    have dL2 : Dp K H3 (.ref l3) (.list [.int (Pm.S rs k : Nat), .int (Pm.S rs k : Nat), .tuple [.int (Pm.W rs 0 k : Nat), .int (Pm.W rs 1 k : Nat)]]) := .lst (SqL.of e3) (.cons (.int _) (.cons (.int _) (.cons (.tup (SqT.of (s3 _ _ e2)) (.cons (.int _) (.cons (.int _) .nil))) .nil)))
    refine go_reprD dL2 sh1 ?_
    refine go_neSS ?_
    walk_at "go"
    have s13 : Same H H3 := (s1.trans s2).trans s3
    clear sh1 dL dL2 e3 el1 e2
    refine forRange (fun i σ H' => ∃ (v5 v6 : Option V), σ = [some m, some (.ref a), some (.int (k : Int)), some x, some (.int ((Pm.size (Pm.rnd rs k) : Nat) : Int)), v5, v6] ∧ Same H H') ⟨_, _, rfl, s13⟩ ?_ ?_
    · rintro i σ K1 hi ⟨v5, v6, rfl, z1⟩
      clear s13 s1 s2 s3
      have hmK := hm.same z1
      have hi' : i < Pm.S rs k := hi
      have a0 : Pm.al (Pm.rnd rs k).reverse i 0 < Pm.W rs 0 k := hm.ok.A_lt 0 k i
      have a1 : Pm.al (Pm.rnd rs k).reverse i 1 < Pm.W rs 1 k := hm.ok.A_lt 1 k i
      have ga' : Pm.G rs k (Pm.al (Pm.rnd rs k).reverse i 0) (Pm.al (Pm.rnd rs k).reverse i 1) = i := hm.ok.G_A hi'
      have i32 : i ≤ 32 := by omega
      walk_at "go"
      rename_i c1 L1 y1 f1 c2 L2 y2 f2 c3 L3 y3 f3 l4 L4 m4 y4 f4
      have f1' : L3 c1 = _ := y3 _ _ (y2 _ _ f1)
      have sh : Shw (.list [.tuple [.int (Pm.A rs 0 k i : Nat), .int (Pm.A rs 1 k i : Nat)], .tuple [.int (Pm.A rs 0 k i : Nat), .int (Pm.A rs 1 k i : Nat)]]) := shL (sl1 (smP (le_big (Nat.le_trans (Nat.le_of_lt a0) w32.1)) (le_big (Nat.le_trans (Nat.le_of_lt a1) w32.2))) (sl1 (smP (le_big (Nat.le_trans (Nat.le_of_lt a0) w32.1)) (le_big (Nat.le_trans (Nat.le_of_lt a1) w32.2))) sl0)) (Nat.le_of_ble_eq_true rfl)
      have pr : ∀ {G : Hp} {c : Addr}, G c = some (.tup [.int (Pm.A rs 0 k i : Nat), .int (Pm.A rs 1 k i : Nat)]) → Dp K G (.ref c) (.tuple [.int (Pm.A rs 0 k i : Nat), .int (Pm.A rs 1 k i : Nat)]) := fun e => .tup (SqT.of e) (.cons (.int _) (.cons (.int _) .nil))
      refine go_reprD (d := .list [.tuple [.int (Pm.A rs 0 k i : Nat), .int (Pm.A rs 1 k i : Nat)], .tuple [.int (Pm.A rs 0 k i : Nat), .int (Pm.A rs 1 k i : Nat)]]) (.lst (SqL.of f4) (.cons (pr (y4 _ _ (y3 _ _ f2))) (.cons (pr (y4 _ _ f3)) .nil))) sh ?_
      walk_at "go"
      rename_i l5 L5 m5 y5 f5
      refine go_reprD (d := .list [.tuple [.int (Pm.A rs 0 k i : Nat), .int (Pm.A rs 1 k i : Nat)], .tuple [.int (Pm.A rs 0 k i : Nat), .int (Pm.A rs 1 k i : Nat)]]) (.lst (SqL.of f5) (.cons (pr (y5 _ _ (y4 _ _ f1'))) (.cons (pr (y5 _ _ (y4 _ _ f1'))) .nil))) sh ?_
      refine go_neSS ?_
      have cr5 : Dp K L5 (.ref c1) (.tuple [.int ((Pm.al (Pm.rnd rs k).reverse i 0 : Nat) : Int), .int ((Pm.al (Pm.rnd rs k).reverse i 1 : Nat) : Int)]) := pr (y5 _ _ (y4 _ _ f1'))
      have hm5 : PlanAt K C L5 m rs := by tb_rel
      have z5 : Same H L5 := by tb_rel
      clear f1 f2 f3 f4 f5 f1' sh y1 y2 y3 y4 y5 z1 hmK
      walk_at "go"
      rename_i L6 y6 L7 y7 l8 L8 m8 y8 f8
      rw [ga'] at f8
      have sh : Shw (.list [.int (i : Int), .int (i : Int)]) := shL (sl1 (smN (le_big i32)) (sl1 (smN (le_big i32)) sl0)) (Nat.le_of_ble_eq_true rfl)
      refine go_reprD (d := .list [.int (i : Int), .int (i : Int)]) (.lst (SqL.of f8) (.cons (.int _) (.cons (.int _) .nil))) sh ?_
      walk_at "go"
      rename_i l9 L9 m9 y9 f9
      refine go_reprD (d := .list [.int (i : Int), .int (i : Int)]) (.lst (SqL.of f9) (.cons (.int _) (.cons (.int _) .nil))) sh ?_
      refine go_neSS ?_
      walk_at "go"
      exact ⟨_, _, rfl, by tb_rel⟩
    · rintro σ K1 ⟨v5, v6, rfl, z1⟩
      clear s13 s1 s2 s3
      have hmK := hm.same z1
      walk_at "go"
      rename_i t4 ht4
      have sh : Shw (.tuple [.int (Pm.W rs 0 k : Nat), .int (Pm.W rs 1 k : Nat)]) := (smP (le_big w32.1) (le_big w32.2)).shw (by decide) (by decide)
      refine go_reprD (d := .tuple [.int (Pm.W rs 0 k : Nat), .int (Pm.W rs 1 k : Nat)]) (.tup ht4 (.cons (.int _) (.cons (.int _) .nil))) sh ?_
      walk_at "go"
      rename_i t5 K2 z2 f2
      refine go_reprD (d := .tuple [.int (Pm.W rs 0 k : Nat), .int (Pm.W rs 1 k : Nat)]) (.tup (SqT.of f2) (.cons (.int _) (.cons (.int _) .nil))) sh ?_
      refine go_eqSS ?_
      exact q _ (by tb_rel)
end
end T
set_option Elab.async false
set_option maxRecDepth 100000
set_option maxHeartbeats 4000000
namespace T
open PySem L2 Mv
abbrev s_cright : Stmt := top 46
theorem sc_cright : FnScope ["_law_made", "_law_rows", "_law_both", "_law_fine", "_law_here"] ["_law_made", "_law_rows"] (defScope s_cright) := ⟨rfl, rfl, rfl, by decide +kernel, rfl, by decide +kernel, by decide +kernel⟩
section
variable {P : Program} {w : World} {K : PySem.W.Frag} {mg : Str → Option Value} {base : Heap} {C AX : Addr}
theorem cnt_le {rs : List (List Pm.Cut)} (h : Pm.RdsOk rs) {ax : Nat} (hax : ax < 2) : ∀ f, Pm.cnt rs ax f ≤ 32 ^ f
  | 0 => Nat.le_refl _
  | f + 1 => by
    show Pm.cnt rs ax f * Pm.W rs ax f ≤ 32 ^ f * 32
    refine Nat.mul_le_mul (cnt_le h hax f) ?_
    rcases (by omega : ax = 0 ∨ ax = 1) with rfl | rfl
    · exact (h.W32 f).1
    · exact (h.W32 f).2
theorem cnt_big {rs : List (List Pm.Cut)} (h : Pm.RdsOk rs) {ax : Nat} (hax : ax < 2) {f : Nat} (hf : f ≤ 9) : Pm.cnt rs ax f < 2 ^ 46 :=
  Nat.lt_of_le_of_lt (Nat.le_trans (cnt_le h hax f) (Nat.pow_le_pow_right (by decide) hf)) (by decide)
theorem big46 {n : Nat} (h : n < 2 ^ 46) : n < 10 ^ 400 := Nat.lt_trans h (by decide +kernel)
theorem mod_sub (a b : Nat) : a - a / b * b = a % b := by
  have := Nat.div_add_mod a b
  have e : a / b * b = b * (a / b) := Nat.mul_comm _ _
  omega
theorem go_prP {H : Hp} {v : V} {rs : List (List Pm.Cut)} {sp : Sp} {E : XK} {Q : VK} (h : PlanAt K C H v rs) (k : sp [v] H Q E) : PrR C sp [] E Q v H := by
  obtain ⟨a, dx, fs, rfl, ea, _⟩ := plan_obj h
  exact go_prr ea k
theorem log46 {n : Nat} (h : n < 2 ^ 46) : ((n : Nat) : Int).natAbs.log2 < 1920 := by
  rw [Int.natAbs_natCast]
  exact Nat.lt_of_lt_of_le (lg_lt h (by decide)) (by decide)
def sp_cright (K : PySem.W.Frag) (C : Addr) : Sp := fun vs H Q _ => ∃ (m v : V) (rs : List (List Pm.Cut)), vs = [m, v] ∧ PlanAt K C H m rs ∧ Dp K H v (pRds rs) ∧ ∀ H', Same H H' → Q (.bl true) H'
theorem c_cright {K : PySem.W.Frag} {C : Addr} {m v : V} {rs : List (List Pm.Cut)} {H : Hp} {Q : VK} {E : XK} (h0 : PlanAt K C H m rs) (h1 : Dp K H v (pRds rs)) (q : ∀ H', Same H H' → Q (.bl true) H') : sp_cright K C [m, v] H Q E := ⟨_, _, _, rfl, h0, h1, q⟩
local macro_rules | `(tactic| tb_rel) => `(tactic| repeat (first
  | with_reducible assumption
  | with_reducible exact Dp.int _
  | with_reducible exact Dp.str _
  | with_reducible exact Dp.bl _
  | with_reducible exact Dp.non
  | (with_reducible apply SqT.of; with_reducible assumption)
  | (with_reducible apply SqL.of; with_reducible assumption)
  | (with_reducible apply up_dp; with_reducible assumption)
  | (with_reducible apply up_sqt; with_reducible assumption)
  | (with_reducible apply up_sql; with_reducible assumption)
  | (with_reducible apply up_get; with_reducible assumption)
  | (with_reducible apply up_pot; with_reducible assumption)
  | with_reducible exact Same.refl _
  | with_reducible exact Bu.refl _ _
  | (with_reducible apply up_same; with_reducible assumption)
  | (with_reducible apply up_bu; with_reducible assumption)
  | (with_reducible apply bu_bu; with_reducible assumption)
  | (with_reducible apply free_of; with_reducible assumption)
  | (with_reducible apply mi_fr; with_reducible assumption; (focus (tb_rel; done)))
  | (with_reducible apply mi_dp; with_reducible assumption)
  | (with_reducible apply mi_sqt; with_reducible assumption)
  | (with_reducible apply mi_sql; with_reducible assumption)
  | (with_reducible apply mi_gett; with_reducible assumption)
  | (with_reducible apply mi_getl; with_reducible assumption)
  | (with_reducible apply mi_pot; with_reducible assumption)
  | (with_reducible apply mi_refl; with_reducible assumption; (focus (with_unfolding_all exact rfl)))
  | (with_reducible apply up_mi; with_reducible assumption)
  | (with_reducible apply mi_mi; with_reducible assumption)
  | (with_reducible apply mi_bu; with_reducible assumption)
  | (with_reducible apply up_plan; with_reducible assumption)
  | (with_reducible apply bu_plan; with_reducible assumption; (focus (tb_rel; done)))
  | (with_reducible apply mi_plan; with_reducible assumption; (focus (lcg_src; done)))
  | (with_reducible apply up_bd; with_reducible assumption)
  | (with_reducible apply bd_bd; with_reducible assumption)
  | (with_reducible apply bd_same; with_reducible assumption; (focus (tb_rel; done)))
  | (with_reducible apply bd_bup; with_reducible assumption; (focus (tb_rel; done)))
  | (with_reducible apply bu_getd; with_reducible assumption; (focus (tb_rel; done)))
  | (with_reducible apply bd_dp; with_reducible assumption)
  | (with_reducible apply bd_sqt; with_reducible assumption)
  | (with_reducible apply bd_sql; with_reducible assumption)
  | (with_reducible apply bd_gett; with_reducible assumption)
  | (with_reducible apply bd_getl; with_reducible assumption)
  | (with_reducible apply bd_geti; with_reducible assumption)
  | (with_reducible apply bd_pot; with_reducible assumption)
  | (with_reducible apply pf_dp; with_reducible assumption; (focus (tb_rel; done)); (focus (lcg_src; done)))
  | (with_reducible apply bu_gett; with_reducible assumption; (focus (tb_rel; done)))
  | (with_reducible apply bu_geti; with_reducible assumption; (focus (tb_rel; done)))
  | (with_reducible apply bu_get; with_reducible assumption; (focus (tlg_ne; done)))
  | (with_reducible apply bu_sqt; with_reducible assumption; (focus (tb_rel; done)))
  | (with_reducible apply bu_sql; with_reducible assumption; (focus (tlg_ne; done)))
  | (with_reducible apply bu_dp; with_reducible assumption; (focus (tb_rel; done)); (focus (lcg_src; done)))
  | fail "up"))
local macro_rules | `(tactic| tlg_ne) => `(tactic| first
  | with_reducible assumption
  | (with_reducible apply pot_ne; with_reducible assumption; (focus (tb_rel; done)))
  | fail "ne")
local macro_rules | `(tactic| lcg_src) => `(tactic| first
  | with_reducible assumption
  | with_unfolding_all exact rfl
  | with_unfolding_all decide
  | with_unfolding_all exact Nat.ne_of_beq_eq_false rfl
  | (apply_assumption; done)
  | omega
  | (simp; done)
  | (simp; omega)
  | fail "sd")
local macro_rules | `(tactic| lcg_sub) => `(tactic| first
  | (unfold sizeLine; omega)
  | (simp only [List.length_cons, List.length_nil, List.length_append, List.length_map, List.length_replicate, List.length_take, List.length_drop]; unfold sizeLine; omega)
  | (simp; unfold sizeLine; omega)
  | fail "sz")
local macro_rules | `(tactic| nest_cls) => `(tactic| first
  | (tb_rel; done)
  | (with_reducible apply nmI; (focus (tb_rel; done)))
  | (with_reducible apply d_tup; (focus (tb_rel; done)); (focus (lsm_bools; done)))
  | (with_reducible apply d_lst; (focus (tb_rel; done)); (focus (lsm_bools; done)))
  | fail "dp")
local macro_rules | `(tactic| lsm_bools) => `(tactic| repeat (first
  | with_reducible exact DpAll.nil
  | with_reducible assumption
  | (with_reducible apply DpAll.cons; (focus (nest_cls; done)))
  | fail "dpa"))
local macro_rules | `(tactic| none_booked) => `(tactic| first | with_unfolding_all exact rfl | (with_reducible apply atI_nat; with_reducible assumption) | fail "ix")
local macro_rules | `(tactic| walk_at "go") => `(tactic| repeat (first
  | (focus (with_reducible refine go_var (v := ?_) ?_ ?_; rotate_left; (focus (with_unfolding_all exact rfl))))
  | with_reducible refine go_seq ?_
  | with_reducible refine go_cN ?_
  | with_reducible refine go_c ?_
  | with_reducible refine go_op ?_
  | with_reducible refine go_nil ?_
  | with_reducible refine go_cons ?_
  | with_reducible refine go_cb ?_
  | with_reducible refine go_call0 ?_
  | with_reducible refine go_asg ?_
  | (focus (with_reducible refine go_gname (σ' := ?_) ?_ ?_; rotate_left; (focus (simp only [List.set_cons_succ, List.set_cons_zero]; exact rfl))))
  | with_reducible refine go_par ?_
  | with_reducible refine go_par3 ?_
  | (focus (with_reducible refine go_par3k (σ' := ?_) ?_ ?_; rotate_left; (focus (simp only [List.set_cons_succ, List.set_cons_zero]; exact rfl))))
  | with_reducible refine go_bm ?_
  | (with_reducible apply go_bmL; (focus (tb_rel; done)))
  | (with_reducible apply go_fdX; (focus (with_reducible assumption; done)))
  | (with_reducible apply go_rI; (focus (with_reducible assumption; done)))
  | (focus (with_reducible refine go_par2 (σ' := ?_) ?_ ?_; rotate_left; (focus (simp only [List.set_cons_succ, List.set_cons_zero]; exact rfl))))
  | with_reducible refine go_ifs ?_
  | with_reducible refine go_test ?_
  | with_reducible refine go_tb ?_
  | with_reducible refine go_asb ?_
  | with_reducible refine go_asi ?_
  | with_reducible refine go_ret ?_
  | with_reducible refine go_retn ?_
  | with_reducible refine go_drop ?_
  | with_reducible refine go_next ?_
  | with_reducible refine go_and ?_
  | with_reducible refine go_or ?_
  | with_reducible refine go_not ?_
  | with_reducible refine go_andv ?_
  | with_reducible refine go_orv ?_
  | with_reducible refine go_notv ?_
  | with_reducible refine go_ife ?_
  | with_reducible refine go_chain ?_
  | with_reducible refine go_if1 ?_
  | with_reducible refine go_if0 ?_
  | with_reducible refine go_ifn1 ?_
  | with_reducible refine go_ifn0 ?_
  | (with_reducible apply go_ift; (focus (first | with_reducible rfl | with_reducible assumption | omega)))
  | (with_reducible apply go_ifnt; (focus (first | with_reducible rfl | with_reducible assumption | omega)))
  | (with_reducible apply go_iff; (focus (first | with_reducible assumption | omega)))
  | (with_reducible apply go_ifnf; (focus (first | with_reducible assumption | omega)))
  | with_reducible refine go_un ?_
  | with_reducible refine go_tup ?_
  | with_reducible refine go_lst ?_
  | (with_reducible apply go_newt; (focus (lcg_sub; done)); intros)
  | (with_reducible apply go_newl; (focus (lcg_sub; done)); intros)
  | with_reducible refine go_meth ?_
  | with_reducible refine go_for ?_
  | with_reducible refine go_lc ?_
  | with_reducible refine go_irng1 ?_
  | with_reducible refine go_irng2 ?_
  | with_reducible refine go_ilist ?_
  | with_reducible refine go_itup ?_
  | with_reducible refine go_izip ?_
  | with_reducible refine go_ienum ?_
  | (with_reducible apply go_rg1; (focus (lcg_src; done)))
  | (with_reducible apply go_rg2; (focus (lcg_src; done)); (focus (lcg_src; done)))
  | (with_reducible apply go_lsr; (focus (tb_rel; done)))
  | (with_reducible apply go_tpr; (focus (tb_rel; done)))
  | (with_reducible apply go_zpr; (focus (tb_rel; done)); (focus (tb_rel; done)))
  | (with_reducible apply go_zprT; (focus (tb_rel; done)); (focus (tb_rel; done)))
  | (with_reducible apply go_enrL; (focus (tb_rel; done)))
  | (with_reducible apply go_enrT; (focus (tb_rel; done)))
  | with_reducible refine go_prop ?_
  | with_reducible refine go_knr0 ?_
  | (with_reducible apply go_knr; (focus (with_unfolding_all exact rfl; done)); (focus (simp only [kSw2, kRev3, kId, List.nil_append, List.cons_append]; exact rfl)))
  | with_reducible refine go_mkn ?_
  | (with_reducible apply go_mkr; (focus (tb_rel; done)); (focus (with_unfolding_all exact rfl; done)))
  | with_reducible refine go_fld ?_
  | (with_reducible apply go_flr; (focus (tb_rel; done)); (focus (with_reducible assumption; done)); (focus (with_reducible assumption; done)); (focus (with_unfolding_all exact rfl; done)))
  | (with_reducible apply go_prr; (focus (tb_rel; done)))
  | (with_reducible apply go_mer; (focus (tb_rel; done)); (focus (with_unfolding_all exact rfl; done)))
  | with_reducible refine go_sfld ?_
  | (with_reducible apply go_sfr; (focus (tb_rel; done)); (focus (with_reducible assumption; done)); (focus (with_reducible assumption; done)); (focus (with_unfolding_all exact Nat.le_of_ble_eq_true rfl; done)); (focus (with_unfolding_all exact rfl; done)); intros)
  | with_reducible refine go_revt ?_
  | with_reducible refine go_make0 ?_
  | (focus (with_reducible refine go_aug (x := ?_) ?_ ?_; rotate_left; (focus (with_unfolding_all exact rfl))))
  | (focus (with_reducible refine go_augk (σ' := ?_) ?_ ?_; rotate_left; (focus (simp only [List.set_cons_succ, List.set_cons_zero]; exact rfl))))
  | with_reducible refine go_min2 ?_
  | with_reducible refine go_int1 ?_
  | with_reducible refine go_max2 ?_
  | with_reducible refine go_intB ?_
  | with_reducible refine go_absN ?_
  | with_reducible refine go_isN ?_
  | with_reducible refine go_notN ?_
  | (with_reducible apply go_rvt; (focus (tb_rel; done)); (focus (simp only [List.reverse_cons, List.reverse_nil, List.nil_append, List.cons_append]; exact rfl)); intros)
  | (with_reducible apply go_reprNm; (focus (tb_rel; done)); (focus (with_reducible assumption; done)))
  | (with_reducible apply go_reprPr; (focus (nest_cls; done)); (focus (lcg_src; done)); (focus (lcg_src; done)))
  | with_reducible refine go_sl ?_
  | with_reducible refine go_part ?_
  | with_reducible refine go_nopart ?_
  | (with_reducible apply go_gtup; (focus (tb_rel; done)); (focus (with_unfolding_all exact rfl; done)))
  | (with_reducible apply go_gunl; (focus (tb_rel; done)); (focus (with_unfolding_all exact rfl; done)))
  | with_reducible refine go_gcons ?_
  | with_reducible refine go_gnil ?_
  | with_reducible refine go_addN ?_
  | with_reducible refine go_ltN ?_
  | with_reducible refine go_leN ?_
  | with_reducible refine go_gtN ?_
  | with_reducible refine go_geN ?_
  | (with_reducible apply go_subN; (focus (omega; done)))
  | with_reducible refine go_rI0 ?_
  | (with_reducible apply go_mulN; (focus (omega; done)))
  | (with_reducible apply go_modN; (focus (omega; done)))
  | (with_reducible apply go_divN; (focus (omega; done)))
  | (with_reducible apply go_powN; (focus (with_unfolding_all decide; done)))
  | with_reducible refine go_rU ?_
  | with_reducible refine go_eqN ?_
  | with_reducible refine go_neN ?_
  | with_reducible refine go_isB ?_
  | with_reducible refine go_notB ?_
  | with_reducible refine go_eqS ?_
  | with_reducible refine go_neS ?_
  | with_reducible refine go_eqB ?_
  | with_reducible refine go_eqI ?_
  | with_reducible refine go_neI ?_
  | (with_reducible apply go_ixt; (focus (tb_rel; done)); (focus (none_booked; done)))
  | (with_reducible apply go_ixl; (focus (tb_rel; done)); (focus (none_booked; done)))
  | (with_reducible apply go_lent; (focus (tb_rel; done)))
  | (with_reducible apply go_lenNm; (focus (tb_rel; done)))
  | (with_reducible apply go_isiNm; (focus (tb_rel; done)))
  | (with_reducible apply go_lenl; (focus (tb_rel; done)))
  | (with_reducible apply go_catA; (focus (tb_rel; done)); (focus (tb_rel; done)); (focus (lcg_sub; done)); intros)
  | (with_reducible apply go_slaT; (focus (tb_rel; done)); intros)
  | (with_reducible apply go_slaD; (focus (tb_rel; done)); intros)
  | (with_reducible apply go_rep; (focus (tb_rel; done)); (focus (lcg_src; done)); intros)
  | (with_reducible apply go_tupofl; (focus (tb_rel; done)); intros)
  | (with_reducible apply go_sllT; (focus (tb_rel; done)); intros)
  | (with_reducible apply go_sllD; (focus (tb_rel; done)); intros)
  | (with_reducible apply go_cat; (focus (tb_rel; done)); (focus (tb_rel; done)); (focus (lcg_sub; done)); intros)
  | (with_reducible apply go_eqP; with_reducible assumption; (focus (tb_rel; done)); (focus (tb_rel; done)))
  | (with_reducible apply go_neP; with_reducible assumption; (focus (tb_rel; done)); (focus (tb_rel; done)))
  | (with_reducible apply go_mep; (focus (tb_rel; done)); (focus decide); (focus decide); (focus decide))
  | (with_reducible apply c_cright; (focus (tb_rel; done)); (focus (nest_cls; done)); intros)
  | (with_reducible apply c_lparts; (focus (nest_cls; done)); (focus (lcg_src; done)); intros)
  | (with_reducible apply c_pcounts; (focus (tb_rel; done)); (focus (lcg_src; done)); intros)
  | (with_reducible apply c_pgrowth; (focus (tb_rel; done)); intros)
  | (with_reducible apply c_pphase; (focus (tb_rel; done)); (focus (lcg_src; done)); intros)
  | with_reducible refine go_dget ?_
  | with_reducible refine go_dgr2 ?_
  | with_reducible refine go_dput ?_
  | with_reducible refine go_dpr2 ?_
  | with_reducible refine go_dpt ?_
  | with_reducible refine go_pnil ?_
  | with_reducible refine go_pcons ?_
  | with_reducible refine go_gsub ?_
  | with_reducible refine go_sir ?_
  | with_reducible refine go_lrg ?_
  | with_reducible refine go_rgt2 ?_
  | with_reducible refine go_rge ?_
  | with_reducible refine go_revl ?_
  | (with_reducible apply go_dgk; (focus (tb_rel; done)); with_reducible assumption)
  | (with_reducible apply go_dpk; (focus (tb_rel; done)); (focus (lcg_sub; done)); intros)
  | (with_reducible apply go_disp; intros)
  | (with_reducible apply go_dsk2; (focus (tb_rel; done)); intros)
  | (with_reducible apply go_lrr; (focus (omega; done)); (focus (omega; done)); intros)
  | (with_reducible apply go_rvl; (focus (tb_rel; done)); intros)
  | (with_reducible apply go_knr; (focus (with_unfolding_all exact rfl; done)); (focus (simp only [kSwM]; exact rfl)))
  | (with_reducible apply go_mkp; (focus (tb_rel; done)); (focus decide); (focus decide); (focus decide))
  | with_reducible refine go_cv ?_
  | with_reducible refine go_cvr ?_
  | with_reducible refine go_mkr1 ?_
  | with_reducible refine go_cma ?_
  | with_reducible refine go_cmk ?_
  | with_reducible refine go_cmr ?_
  | with_reducible refine go_ckr ?_
  | (with_reducible apply go_mkL; (focus (with_unfolding_all exact rfl)))
  | (with_reducible apply go_cmv; (focus (with_unfolding_all exact rfl)); (focus (simp only [gApp, kId, List.nil_append, List.cons_append, List.append_nil]; exact rfl)))
  | (with_reducible apply go_ckv; (focus (with_unfolding_all exact rfl)); (focus (simp only [gApp, kId, List.nil_append, List.cons_append, List.append_nil]; exact rfl)))
  | fail "go"))
theorem ok_cright {f : Addr} {fd : FuncData} (F : Df K "_law_counts_right" "_law_counts_right" s_cright [] f fd) (B : Blt mg) (cPts : Ca P w K mg base 2 "_law_parts" (sp_lparts K) []) (cPc : Me P w K mg base 4 C "counts" (sp_pcounts K C) []) (cPcK : MeK P w K mg base 4 C "counts" (sp_pcounts K C) ["f"] kId) (cPhs : Me P w K mg base 4 C "phase" (sp_pphase K C) []) (cPhsK : MeK P w K mg base 4 C "phase" (sp_pphase K C) ["f"] kId) (cGro : Pr P w K mg base 1 C "growth" (sp_pgrowth K C)) : FnG P w K mg base 5 f fd ["_law_made", "_law_rows"] (sp_cright K C) := by
  refine dfG F sc_cright (fun vs H Q E h => ?_) (fun cdv A outer s H vs Q E hr ga h => ?_)
  · obtain ⟨m, v, rs, rfl, _⟩ := h
    rfl
  · obtain ⟨m, v, rs, rfl, hm, hv, q⟩ := h
    obtain ⟨a, xs, rfl, hs, ha⟩ := hv.lstE
    have hxl : xs.length = rs.length := by rw [ha.len, List.length_map]
    have l1 := hm.ok.1
    have l3 := hm.ok.2.1
    refine ⟨_, (pss_cons (ps_set (i := 2) sc_cright.nd rfl (Or.inl rfl) (pe_tup (pa_cons pe_int (pa_cons pe_int pa_nil))))
  (pss_cons (ps_for PassesOwn.never rfl (pi_range1 (by rfl) B.range (pa_cons (pe_op op_add (pe_op op_mul pe_int (pe_callB call_len_seq' (by rfl) B.len bt_len (pa_cons (pv 1) pa_nil))) pe_int) pa_nil)) (pg_name (i := 3) sc_cright.nd rfl (Or.inl rfl))
  (pss_cons (ps_if (pt_cmpR op_ne (pe_callB (call_reprD' ga hr) (by rfl) B.repr bt_repr (pa_cons (pe_lst (pa_cons (pe_me cPc hr (by decide) (pv 0) (pa_cons (pv 3) pa_nil)) (pa_cons (pe_mek cPcK hr (by decide) (pv 0) (pk_cons (pv 3) pk_nil)) (pa_cons (pe_me cPhs hr (by decide) (pv 0) (pa_cons (pv 3) pa_nil)) (pa_cons (pe_mek cPhsK hr (by decide) (pv 0) (pk_cons (pv 3) pk_nil)) pa_nil))))) pa_nil)) (pe_callB (call_reprD' ga hr) (by rfl) B.repr bt_repr (pa_cons (pe_lst (pa_cons (pv 2) (pa_cons (pv 2) (pa_cons (pe_op op_sub (pv 3) (pe_op op_mul (pe_op op_fdiv (pv 3) (pe_callB call_len_seq' (by rfl) B.len bt_len (pa_cons (pv 1) pa_nil))) (pe_callB call_len_seq' (by rfl) B.len bt_len (pa_cons (pv 1) pa_nil)))) (pa_cons (pe_op op_sub (pv 3) (pe_op op_mul (pe_op op_fdiv (pv 3) (pe_callB call_len_seq' (by rfl) B.len bt_len (pa_cons (pv 1) pa_nil))) (pe_callB call_len_seq' (by rfl) B.len bt_len (pa_cons (pv 1) pa_nil)))) pa_nil))))) pa_nil)) (nomark _))
  (pss_one (ps_ret pe_bl))
  pss_nil)
  (pss_cons (ps_if (PW.pt (pw_and (pt_cmpR op_eq (pv 3) (pe_callB call_len_seq' (by rfl) B.len bt_len (pa_cons (pv 1) pa_nil)) (nomark _)) (pw_and1 (pt_cmpR op_ne (pe_callB SkE.call_repr_int (by rfl) B.repr bt_repr (pa_cons (pe_pr cGro hr (by decide) (pv 0)) pa_nil)) (pe_callB SkE.call_repr_int (by rfl) B.repr bt_repr (pa_cons (pe_ix ix_tup' (pv 2) pe_int (fun _ _ => rfl)) pa_nil)) (nomark _)))))
  (pss_one (ps_ret pe_bl))
  pss_nil)
  (pss_cons (ps_set (i := 4) sc_cright.nd rfl (Or.inl rfl) (pe_ca cPts hr (by decide) (by rfl) (pa_cons (pe_ix ix_list' (pv 1) (pe_op op_sub (pv 3) (pe_op op_mul (pe_op op_fdiv (pv 3) (pe_callB call_len_seq' (by rfl) B.len bt_len (pa_cons (pv 1) pa_nil))) (pe_callB call_len_seq' (by rfl) B.len bt_len (pa_cons (pv 1) pa_nil)))) (fun _ _ => rfl)) pa_nil)))
  (pss_one (ps_set (i := 2) sc_cright.nd rfl (Or.inl rfl) (pe_tup (pa_cons (pe_op op_mul (pe_ix ix_tup' (pv 2) pe_int (fun _ _ => rfl)) (pe_ix ix_tup' (pv 4) pe_int (fun _ _ => rfl))) (pa_cons (pe_op op_mul (pe_ix ix_tup' (pv 2) pe_int (fun _ _ => rfl)) (pe_ix ix_tup' (pv 4) pe_int (fun _ _ => rfl))) pa_nil)))))))))
  (pss_one (ps_ret pe_bl)))), ?_⟩
    refine go_start (σ := [some _, some _, none, none, none]) rfl ?_
    walk_at "go"
    rename_i t1 H1 n1 s1 e1
    refine forRange (fun i σ H' => ∃ (v3 v4 : Option V) (t : Addr), σ = [some m, some (.ref a), some (.ref t), v3, v4] ∧ Same H H' ∧ H' t = some (.tup [.int ((Pm.cnt rs 0 i : Nat) : Int), .int ((Pm.cnt rs 1 i : Nat) : Int)])) ⟨_, _, t1, rfl, s1, e1⟩ ?_ ?_
    · rintro i σ K1 hi ⟨v3, v4, t, rfl, z1, et⟩
      clear s1 e1 n1
      have hmK := hm.same z1
      have i9 : i ≤ 9 := by omega
      have i1000 : i ≤ 1000 := by omega
      have b0 := cnt_big hm.ok (ax := 0) (by decide) i9
      have b1 := cnt_big hm.ok (ax := 1) (by decide) i9
      walk_at "go"
      rename_i c1 L1 y1 f1 c2 L2 y2 f2 r3 L3 m3 y3 f3
      have hmod : i % rs.length ≤ 32 := Nat.le_trans (Nat.le_of_lt (Nat.mod_lt _ l1)) (Nat.le_trans l3 (by decide))
      have sh : Shw (.list [.tuple [.int (Pm.cnt rs 0 i : Nat), .int (Pm.cnt rs 1 i : Nat)], .tuple [.int (Pm.cnt rs 0 i : Nat), .int (Pm.cnt rs 1 i : Nat)], .int (i % rs.length : Nat), .int (i % rs.length : Nat)]) := shL (sl1 (smP (big46 b0) (big46 b1)) (sl1 (smP (big46 b0) (big46 b1)) (sl1 (smN (le_big hmod)) (sl1 (smN (le_big hmod)) sl0)))) (Nat.le_of_ble_eq_true rfl)
      have pr : ∀ {G : Hp} {c : Addr}, G c = some (.tup [.int (Pm.cnt rs 0 i : Nat), .int (Pm.cnt rs 1 i : Nat)]) → Dp K G (.ref c) (.tuple [.int (Pm.cnt rs 0 i : Nat), .int (Pm.cnt rs 1 i : Nat)]) := fun e => .tup (SqT.of e) (.cons (.int _) (.cons (.int _) .nil))
      refine go_reprD (d := .list [.tuple [.int (Pm.cnt rs 0 i : Nat), .int (Pm.cnt rs 1 i : Nat)], .tuple [.int (Pm.cnt rs 0 i : Nat), .int (Pm.cnt rs 1 i : Nat)], .int (i % rs.length : Nat), .int (i % rs.length : Nat)]) (.lst (SqL.of f3) (.cons (pr (y3 _ _ (y2 _ _ f1))) (.cons (pr (y3 _ _ f2)) (.cons (.int _) (.cons (.int _) .nil))))) sh ?_
      have hdm := Nat.div_mul_le_self i xs.length
      have hx0 : 0 < xs.length := by omega
      walk_at "go"
      rename_i l4 L4 m4 y4 f4
      rw [hxl, mod_sub] at f4
      have et4 : L4 t = some (.tup [.int ((Pm.cnt rs 0 i : Nat) : Int), .int ((Pm.cnt rs 1 i : Nat) : Int)]) := by tb_rel
      refine go_reprD (d := .list [.tuple [.int (Pm.cnt rs 0 i : Nat), .int (Pm.cnt rs 1 i : Nat)], .tuple [.int (Pm.cnt rs 0 i : Nat), .int (Pm.cnt rs 1 i : Nat)], .int (i % rs.length : Nat), .int (i % rs.length : Nat)]) (.lst (SqL.of f4) (.cons (pr et4) (.cons (pr et4) (.cons (.int _) (.cons (.int _) .nil))))) sh ?_
      refine go_neSS ?_
      have hm4 : PlanAt K C L4 m rs := by tb_rel
      have z4 : Same H L4 := by tb_rel
      clear f1 f2 f3 f4 sh y1 y2 y3 y4 z1 hmK et
      have hs4 : SqL K L4 a xs := z4.seq hs
      obtain ⟨x, hx, hdx⟩ := ha.got (i := i % rs.length) (by rw [List.getElem?_map, Pm.rnd_get l1 i]; rfl)
      have okr := hm.ok.rnd i
      have w32 := hm.ok.W32 i
      walk_at "go"
      by_cases hin : i = xs.length
      · walk_at "go"
        refine go_prP hm4 ?_
        walk_at "go"
        have hir : i = rs.length := hin.trans hxl
        rw [← hir]
        refine ⟨_, rfl, log46 b0, ?_⟩
        walk_at "go"
        refine ⟨_, rfl, log46 b0, ?_⟩
        refine go_neSS ?_
        walk_at "go"
        rw [hxl, mod_sub]
        refine go_ixl hs4 (atI_nat hx) ?_
        have hdx4 := hdx.up z4
        walk_at "go"
        exact ⟨_, _, _, rfl, by tb_rel, by assumption⟩
      · skip
        walk_at "go"
        rw [hxl, mod_sub]
        refine go_ixl hs4 (atI_nat hx) ?_
        have hdx4 := hdx.up z4
        walk_at "go"
        exact ⟨_, _, _, rfl, by tb_rel, by assumption⟩
    · rintro σ K1 ⟨v3, v4, t, rfl, z1, et⟩
      walk_at "go"
      exact q _ z1
end
end T
set_option Elab.async false
set_option maxRecDepth 100000
set_option maxHeartbeats 4000000
namespace T
open PySem PySem.Spec PyProof.Rows L2 Mv
theorem cut_in (J : Str) : cutS ((("[" : Str) ++ J) ++ ("]" : Str)) (some 1) (some (-1)) = J := by
  have hc : ((("[" : Str) ++ J) ++ ("]" : Str)).cps.toList = 91 :: (J.cps.toList ++ [93]) := by
    show ((#[91] ++ J.cps) ++ #[93]).toList = _
    simp
  have hl : ((("[" : Str) ++ J) ++ ("]" : Str)).length = J.cps.toList.length + 2 := by
    show ((("[" : Str) ++ J) ++ ("]" : Str)).cps.size = _
    rw [← Array.length_toList, hc]
    simp
  unfold cutS
  rw [hc, hl]
  have e1 : HT.sIx (J.cps.toList.length + 2) 0 (some 1) = 1 := by
    unfold HT.sIx
    simp
    try omega
  have e2 : HT.sIx (J.cps.toList.length + 2) (J.cps.toList.length + 2) (some (-1)) = J.cps.toList.length + 1 := by
    unfold HT.sIx
    simp
    try omega
  rw [e1, e2]
  obtain ⟨c⟩ := J
  simp
theorem shownAll_map : ∀ ds : List PyData, PyData.shownAll ds = ds.map PyData.shown
  | [] => rfl
  | d :: ds => by rw [PyData.shownAll, shownAll_map ds]; rfl
theorem shown_rds (rs : List (List Pm.Cut)) : (pRds rs).shown = (("[" : Str) ++ Txt.join ", " (rs.map fun r => (pRnd r).shown)) ++ ("]" : Str) := by
  show listText (PyData.shownAll (rs.map pRnd)) = _
  rw [listText_eq_join, shownAll_map, List.map_map, show Txt.join ", " (rs.map fun r => (pRnd r).shown) = Str.join ", " (rs.map fun r => (pRnd r).shown) from PySem.StrLaws.glued_eq_join _ _]
  rfl
theorem planTxt_cut (rs : List (List Pm.Cut)) : ((("Plan(" : Str) ++ cutS (pRds rs).shown (some 1) (some (-1))) ++ (")" : Str)) = planTxt rs := by
  rw [shown_rds, cut_in]
  rfl
end T
set_option Elab.async false
set_option maxRecDepth 100000
set_option maxHeartbeats 4000000
namespace T
open PySem L2 Mv
abbrev s_tright : Stmt := top 47
theorem sc_tright : FnScope ["_law_made", "_law_rows", "_law_k", "_law_told"] ["_law_made", "_law_rows"] (defScope s_tright) := ⟨rfl, rfl, rfl, by decide +kernel, rfl, by decide +kernel, by decide +kernel⟩
section
variable {P : Program} {w : World} {K : PySem.W.Frag} {mg : Str → Option Value} {base : Heap} {C AX : Addr}
theorem sh_rds {rs : List (List Pm.Cut)} (h : Pm.RdsOk rs) : Shw (pRds rs) := (sm_rds h).shw (by decide) (by decide)
theorem new_rds {H H' : Hp} {l : Addr} {ys : List V} {rs : List (List Pm.Cut)} (h : NewLs K H H' l ys (rs.map fun r => r.map pCut)) (e : H' l = some (.lst ys)) : Dp K H' (.ref l) (pRds rs) := by
  refine .lst (SqL.of e) ?_
  have := h.dp
  rw [List.map_map] at this
  exact this
theorem go_reprP {H : Hp} {v : V} {rs : List (List Pm.Cut)} {Q : VK} (h : PlanAt K C H v rs) (q : ∀ H', Same H H' → Q (.str (planTxt rs)) H') : rReprO C (sp_prepr K C) [v] H Q := by
  obtain ⟨a, dx, fs, rfl, ea, _⟩ := plan_obj h
  exact ⟨a, dx, fs, rfl, ea, _, rs, rfl, h, fun H' s => ⟨_, rfl, q H' s⟩⟩
theorem same_none {H H' : Hp} {a : Addr} (s : Same H H') (e : H' a = none) : H a = none := by
  cases h : H a with
  | none => rfl
  | some o => exact absurd ((s _ _ h).symm.trans e) (by simp)
theorem sh_tail {r0 : List Pm.Cut} {rt : List (List Pm.Cut)} (h : Pm.RdsOk (r0 :: rt)) : Shw (pRds rt) := by
  refine ((Sma.list (k := 2) (W := 65) (ds := rt.map pRnd) fun d hd => ?_).mono (Nat.le_refl _) (?_ : _ ≤ 198)).shw (by decide) (by decide)
  · obtain ⟨r, hr, rfl⟩ := List.mem_map.mp hd
    exact sm_rnd (h.2.2.1 r (List.mem_cons_of_mem _ hr))
  · have := h.2.1
    rw [List.length_cons] at this
    rw [List.length_map]
    omega
def sp_tright (K : PySem.W.Frag) (C : Addr) : Sp := fun vs H Q _ => ∃ (m v : V) (rs : List (List Pm.Cut)), vs = [m, v] ∧ PlanAt K C H m rs ∧ Dp K H v (pRds rs) ∧ ∀ H', Same H H' → Q (.bl true) H'
theorem c_tright {K : PySem.W.Frag} {C : Addr} {m v : V} {rs : List (List Pm.Cut)} {H : Hp} {Q : VK} {E : XK} (h0 : PlanAt K C H m rs) (h1 : Dp K H v (pRds rs)) (q : ∀ H', Same H H' → Q (.bl true) H') : sp_tright K C [m, v] H Q E := ⟨_, _, _, rfl, h0, h1, q⟩
local macro_rules | `(tactic| tb_rel) => `(tactic| repeat (first
  | with_reducible assumption
  | with_reducible exact Dp.int _
  | with_reducible exact Dp.str _
  | with_reducible exact Dp.bl _
  | with_reducible exact Dp.non
  | (with_reducible apply SqT.of; with_reducible assumption)
  | (with_reducible apply SqL.of; with_reducible assumption)
  | (with_reducible apply up_dp; with_reducible assumption)
  | (with_reducible apply up_sqt; with_reducible assumption)
  | (with_reducible apply up_sql; with_reducible assumption)
  | (with_reducible apply up_get; with_reducible assumption)
  | (with_reducible apply up_pot; with_reducible assumption)
  | with_reducible exact Same.refl _
  | with_reducible exact Bu.refl _ _
  | (with_reducible apply up_same; with_reducible assumption)
  | (with_reducible apply up_bu; with_reducible assumption)
  | (with_reducible apply bu_bu; with_reducible assumption)
  | (with_reducible apply free_of; with_reducible assumption)
  | (with_reducible apply mi_fr; with_reducible assumption; (focus (tb_rel; done)))
  | (with_reducible apply mi_dp; with_reducible assumption)
  | (with_reducible apply mi_sqt; with_reducible assumption)
  | (with_reducible apply mi_sql; with_reducible assumption)
  | (with_reducible apply mi_gett; with_reducible assumption)
  | (with_reducible apply mi_getl; with_reducible assumption)
  | (with_reducible apply mi_pot; with_reducible assumption)
  | (with_reducible apply mi_refl; with_reducible assumption; (focus (with_unfolding_all exact rfl)))
  | (with_reducible apply up_mi; with_reducible assumption)
  | (with_reducible apply mi_mi; with_reducible assumption)
  | (with_reducible apply mi_bu; with_reducible assumption)
  | (with_reducible apply up_plan; with_reducible assumption)
  | (with_reducible apply bu_plan; with_reducible assumption; (focus (tb_rel; done)))
  | (with_reducible apply mi_plan; with_reducible assumption; (focus (lcg_src; done)))
  | (with_reducible apply up_bd; with_reducible assumption)
  | (with_reducible apply bd_bd; with_reducible assumption)
  | (with_reducible apply bd_same; with_reducible assumption; (focus (tb_rel; done)))
  | (with_reducible apply bd_bup; with_reducible assumption; (focus (tb_rel; done)))
  | (with_reducible apply bu_getd; with_reducible assumption; (focus (tb_rel; done)))
  | (with_reducible apply bd_dp; with_reducible assumption)
  | (with_reducible apply bd_sqt; with_reducible assumption)
  | (with_reducible apply bd_sql; with_reducible assumption)
  | (with_reducible apply bd_gett; with_reducible assumption)
  | (with_reducible apply bd_getl; with_reducible assumption)
  | (with_reducible apply bd_geti; with_reducible assumption)
  | (with_reducible apply bd_pot; with_reducible assumption)
  | (with_reducible apply pf_dp; with_reducible assumption; (focus (tb_rel; done)); (focus (lcg_src; done)))
  | (with_reducible apply bu_gett; with_reducible assumption; (focus (tb_rel; done)))
  | (with_reducible apply bu_geti; with_reducible assumption; (focus (tb_rel; done)))
  | (with_reducible apply bu_get; with_reducible assumption; (focus (tlg_ne; done)))
  | (with_reducible apply bu_sqt; with_reducible assumption; (focus (tb_rel; done)))
  | (with_reducible apply bu_sql; with_reducible assumption; (focus (tlg_ne; done)))
  | (with_reducible apply bu_dp; with_reducible assumption; (focus (tb_rel; done)); (focus (lcg_src; done)))
  | fail "up"))
local macro_rules | `(tactic| tlg_ne) => `(tactic| first
  | with_reducible assumption
  | (with_reducible apply pot_ne; with_reducible assumption; (focus (tb_rel; done)))
  | fail "ne")
local macro_rules | `(tactic| lcg_src) => `(tactic| first
  | with_reducible assumption
  | with_unfolding_all exact rfl
  | with_unfolding_all decide
  | with_unfolding_all exact Nat.ne_of_beq_eq_false rfl
  | (apply_assumption; done)
  | omega
  | (simp; done)
  | (simp; omega)
  | fail "sd")
local macro_rules | `(tactic| lcg_sub) => `(tactic| first
  | (unfold sizeLine; omega)
  | (simp only [List.length_cons, List.length_nil, List.length_append, List.length_map, List.length_replicate, List.length_take, List.length_drop]; unfold sizeLine; omega)
  | (simp; unfold sizeLine; omega)
  | fail "sz")
local macro_rules | `(tactic| nest_cls) => `(tactic| first
  | (tb_rel; done)
  | (with_reducible apply nmI; (focus (tb_rel; done)))
  | (with_reducible apply d_tup; (focus (tb_rel; done)); (focus (lsm_bools; done)))
  | (with_reducible apply d_lst; (focus (tb_rel; done)); (focus (lsm_bools; done)))
  | fail "dp")
local macro_rules | `(tactic| lsm_bools) => `(tactic| repeat (first
  | with_reducible exact DpAll.nil
  | with_reducible assumption
  | (with_reducible apply DpAll.cons; (focus (nest_cls; done)))
  | fail "dpa"))
local macro_rules | `(tactic| none_booked) => `(tactic| first | with_unfolding_all exact rfl | (with_reducible apply atI_nat; with_reducible assumption) | fail "ix")
local macro_rules | `(tactic| walk_at "go") => `(tactic| repeat (first
  | (focus (with_reducible refine go_var (v := ?_) ?_ ?_; rotate_left; (focus (with_unfolding_all exact rfl))))
  | with_reducible refine go_seq ?_
  | with_reducible refine go_cN ?_
  | with_reducible refine go_c ?_
  | with_reducible refine go_op ?_
  | with_reducible refine go_nil ?_
  | with_reducible refine go_cons ?_
  | with_reducible refine go_cb ?_
  | with_reducible refine go_call0 ?_
  | with_reducible refine go_asg ?_
  | (focus (with_reducible refine go_gname (σ' := ?_) ?_ ?_; rotate_left; (focus (simp only [List.set_cons_succ, List.set_cons_zero]; exact rfl))))
  | with_reducible refine go_par ?_
  | with_reducible refine go_par3 ?_
  | (focus (with_reducible refine go_par3k (σ' := ?_) ?_ ?_; rotate_left; (focus (simp only [List.set_cons_succ, List.set_cons_zero]; exact rfl))))
  | with_reducible refine go_bm ?_
  | (with_reducible apply go_bmL; (focus (tb_rel; done)))
  | (with_reducible apply go_fdX; (focus (with_reducible assumption; done)))
  | (with_reducible apply go_rI; (focus (with_reducible assumption; done)))
  | (focus (with_reducible refine go_par2 (σ' := ?_) ?_ ?_; rotate_left; (focus (simp only [List.set_cons_succ, List.set_cons_zero]; exact rfl))))
  | with_reducible refine go_ifs ?_
  | with_reducible refine go_test ?_
  | with_reducible refine go_tb ?_
  | with_reducible refine go_asb ?_
  | with_reducible refine go_asi ?_
  | with_reducible refine go_ret ?_
  | with_reducible refine go_retn ?_
  | with_reducible refine go_drop ?_
  | with_reducible refine go_next ?_
  | with_reducible refine go_and ?_
  | with_reducible refine go_or ?_
  | with_reducible refine go_not ?_
  | with_reducible refine go_andv ?_
  | with_reducible refine go_orv ?_
  | with_reducible refine go_notv ?_
  | with_reducible refine go_ife ?_
  | with_reducible refine go_chain ?_
  | with_reducible refine go_if1 ?_
  | with_reducible refine go_if0 ?_
  | with_reducible refine go_ifn1 ?_
  | with_reducible refine go_ifn0 ?_
  | (with_reducible apply go_ift; (focus (first | with_reducible rfl | with_reducible assumption | omega)))
  | (with_reducible apply go_ifnt; (focus (first | with_reducible rfl | with_reducible assumption | omega)))
  | (with_reducible apply go_iff; (focus (first | with_reducible assumption | omega)))
  | (with_reducible apply go_ifnf; (focus (first | with_reducible assumption | omega)))
  | with_reducible refine go_un ?_
  | with_reducible refine go_tup ?_
  | with_reducible refine go_lst ?_
  | (with_reducible apply go_newt; (focus (lcg_sub; done)); intros)
  | (with_reducible apply go_newl; (focus (lcg_sub; done)); intros)
  | with_reducible refine go_meth ?_
  | with_reducible refine go_for ?_
  | with_reducible refine go_lc ?_
  | with_reducible refine go_irng1 ?_
  | with_reducible refine go_irng2 ?_
  | with_reducible refine go_ilist ?_
  | with_reducible refine go_itup ?_
  | with_reducible refine go_izip ?_
  | with_reducible refine go_ienum ?_
  | (with_reducible apply go_rg1; (focus (lcg_src; done)))
  | (with_reducible apply go_rg2; (focus (lcg_src; done)); (focus (lcg_src; done)))
  | (with_reducible apply go_lsr; (focus (tb_rel; done)))
  | (with_reducible apply go_tpr; (focus (tb_rel; done)))
  | (with_reducible apply go_zpr; (focus (tb_rel; done)); (focus (tb_rel; done)))
  | (with_reducible apply go_zprT; (focus (tb_rel; done)); (focus (tb_rel; done)))
  | (with_reducible apply go_enrL; (focus (tb_rel; done)))
  | (with_reducible apply go_enrT; (focus (tb_rel; done)))
  | with_reducible refine go_prop ?_
  | with_reducible refine go_knr0 ?_
  | (with_reducible apply go_knr; (focus (with_unfolding_all exact rfl; done)); (focus (simp only [kSw2, kRev3, kId, List.nil_append, List.cons_append]; exact rfl)))
  | with_reducible refine go_mkn ?_
  | (with_reducible apply go_mkr; (focus (tb_rel; done)); (focus (with_unfolding_all exact rfl; done)))
  | with_reducible refine go_fld ?_
  | (with_reducible apply go_flr; (focus (tb_rel; done)); (focus (with_reducible assumption; done)); (focus (with_reducible assumption; done)); (focus (with_unfolding_all exact rfl; done)))
  | (with_reducible apply go_prr; (focus (tb_rel; done)))
  | (with_reducible apply go_mer; (focus (tb_rel; done)); (focus (with_unfolding_all exact rfl; done)))
  | with_reducible refine go_sfld ?_
  | (with_reducible apply go_sfr; (focus (tb_rel; done)); (focus (with_reducible assumption; done)); (focus (with_reducible assumption; done)); (focus (with_unfolding_all exact Nat.le_of_ble_eq_true rfl; done)); (focus (with_unfolding_all exact rfl; done)); intros)
  | with_reducible refine go_revt ?_
  | with_reducible refine go_make0 ?_
  | (focus (with_reducible refine go_aug (x := ?_) ?_ ?_; rotate_left; (focus (with_unfolding_all exact rfl))))
  | (focus (with_reducible refine go_augk (σ' := ?_) ?_ ?_; rotate_left; (focus (simp only [List.set_cons_succ, List.set_cons_zero]; exact rfl))))
  | with_reducible refine go_min2 ?_
  | with_reducible refine go_int1 ?_
  | with_reducible refine go_max2 ?_
  | with_reducible refine go_intB ?_
  | with_reducible refine go_absN ?_
  | with_reducible refine go_isN ?_
  | with_reducible refine go_notN ?_
  | (with_reducible apply go_rvt; (focus (tb_rel; done)); (focus (simp only [List.reverse_cons, List.reverse_nil, List.nil_append, List.cons_append]; exact rfl)); intros)
  | (with_reducible apply go_reprNm; (focus (tb_rel; done)); (focus (with_reducible assumption; done)))
  | (with_reducible apply go_reprPr; (focus (nest_cls; done)); (focus (lcg_src; done)); (focus (lcg_src; done)))
  | with_reducible refine go_sl ?_
  | with_reducible refine go_part ?_
  | with_reducible refine go_nopart ?_
  | (with_reducible apply go_gtup; (focus (tb_rel; done)); (focus (with_unfolding_all exact rfl; done)))
  | (with_reducible apply go_gunl; (focus (tb_rel; done)); (focus (with_unfolding_all exact rfl; done)))
  | with_reducible refine go_gcons ?_
  | with_reducible refine go_gnil ?_
  | with_reducible refine go_addN ?_
  | with_reducible refine go_ltN ?_
  | with_reducible refine go_leN ?_
  | with_reducible refine go_gtN ?_
  | with_reducible refine go_geN ?_
  | (with_reducible apply go_subN; (focus (omega; done)))
  | with_reducible refine go_rI0 ?_
  | (with_reducible apply go_mulN; (focus (omega; done)))
  | (with_reducible apply go_modN; (focus (omega; done)))
  | (with_reducible apply go_divN; (focus (omega; done)))
  | (with_reducible apply go_powN; (focus (with_unfolding_all decide; done)))
  | with_reducible refine go_rU ?_
  | with_reducible refine go_eqN ?_
  | with_reducible refine go_neN ?_
  | with_reducible refine go_isB ?_
  | with_reducible refine go_notB ?_
  | with_reducible refine go_eqS ?_
  | with_reducible refine go_neS ?_
  | with_reducible refine go_eqB ?_
  | with_reducible refine go_eqI ?_
  | with_reducible refine go_neI ?_
  | (with_reducible apply go_ixt; (focus (tb_rel; done)); (focus (none_booked; done)))
  | (with_reducible apply go_ixl; (focus (tb_rel; done)); (focus (none_booked; done)))
  | (with_reducible apply go_lent; (focus (tb_rel; done)))
  | (with_reducible apply go_lenNm; (focus (tb_rel; done)))
  | (with_reducible apply go_isiNm; (focus (tb_rel; done)))
  | (with_reducible apply go_lenl; (focus (tb_rel; done)))
  | (with_reducible apply go_catA; (focus (tb_rel; done)); (focus (tb_rel; done)); (focus (lcg_sub; done)); intros)
  | (with_reducible apply go_slaT; (focus (tb_rel; done)); intros)
  | (with_reducible apply go_slaD; (focus (tb_rel; done)); intros)
  | (with_reducible apply go_rep; (focus (tb_rel; done)); (focus (lcg_src; done)); intros)
  | (with_reducible apply go_tupofl; (focus (tb_rel; done)); intros)
  | (with_reducible apply go_sllT; (focus (tb_rel; done)); intros)
  | (with_reducible apply go_sllD; (focus (tb_rel; done)); intros)
  | (with_reducible apply go_cat; (focus (tb_rel; done)); (focus (tb_rel; done)); (focus (lcg_sub; done)); intros)
  | (with_reducible apply go_eqP; with_reducible assumption; (focus (tb_rel; done)); (focus (tb_rel; done)))
  | (with_reducible apply go_neP; with_reducible assumption; (focus (tb_rel; done)); (focus (tb_rel; done)))
  | (with_reducible apply go_mep; (focus (tb_rel; done)); (focus decide); (focus decide); (focus decide))
  | (with_reducible apply c_cright; (focus (tb_rel; done)); (focus (nest_cls; done)); intros)
  | (with_reducible apply c_plen; (focus (tb_rel; done)); intros)
  | (with_reducible apply c_prepr; (focus (tb_rel; done)); intros)
  | (with_reducible apply c_prounds; (focus (tb_rel; done)); intros)
  | (with_reducible apply c_rright; (focus (tb_rel; done)); (focus (nest_cls; done)); (focus (lcg_src; done)); intros)
  | (with_reducible apply c_tright; (focus (tb_rel; done)); (focus (nest_cls; done)); intros)
  | with_reducible refine go_dget ?_
  | with_reducible refine go_dgr2 ?_
  | with_reducible refine go_dput ?_
  | with_reducible refine go_dpr2 ?_
  | with_reducible refine go_dpt ?_
  | with_reducible refine go_pnil ?_
  | with_reducible refine go_pcons ?_
  | with_reducible refine go_gsub ?_
  | with_reducible refine go_sir ?_
  | with_reducible refine go_lrg ?_
  | with_reducible refine go_rgt2 ?_
  | with_reducible refine go_rge ?_
  | with_reducible refine go_revl ?_
  | (with_reducible apply go_dgk; (focus (tb_rel; done)); with_reducible assumption)
  | (with_reducible apply go_dpk; (focus (tb_rel; done)); (focus (lcg_sub; done)); intros)
  | (with_reducible apply go_disp; intros)
  | (with_reducible apply go_dsk2; (focus (tb_rel; done)); intros)
  | (with_reducible apply go_lrr; (focus (omega; done)); (focus (omega; done)); intros)
  | (with_reducible apply go_rvl; (focus (tb_rel; done)); intros)
  | (with_reducible apply go_knr; (focus (with_unfolding_all exact rfl; done)); (focus (simp only [kSwM]; exact rfl)))
  | (with_reducible apply go_mkp; (focus (tb_rel; done)); (focus decide); (focus decide); (focus decide))
  | with_reducible refine go_cv ?_
  | with_reducible refine go_cvr ?_
  | with_reducible refine go_mkr1 ?_
  | with_reducible refine go_cma ?_
  | with_reducible refine go_cmk ?_
  | with_reducible refine go_cmr ?_
  | with_reducible refine go_ckr ?_
  | (with_reducible apply go_mkL; (focus (with_unfolding_all exact rfl)))
  | (with_reducible apply go_cmv; (focus (with_unfolding_all exact rfl)); (focus (simp only [gApp, kId, List.nil_append, List.cons_append, List.append_nil]; exact rfl)))
  | (with_reducible apply go_ckv; (focus (with_unfolding_all exact rfl)); (focus (simp only [gApp, kId, List.nil_append, List.cons_append, List.append_nil]; exact rfl)))
  | fail "go"))
theorem ok_tright {f : Addr} {fd : FuncData} (F : Df K "_law_told_right" "_law_told_right" s_tright [] f fd) (B : Blt mg) (cRr : Cg P w K mg base 8 "_law_round_right" ["_law_made", "_law_rows", "_law_k"] (sp_rright K C) []) (cCr : Cg P w K mg base 5 "_law_counts_right" ["_law_made", "_law_rows"] (sp_cright K C) []) (cRds : Me P w K mg base 1 C "rounds" (sp_prounds K C) []) (cLen : Op2 P w K mg base 1 C "__len__" (sp_plen K C)) (cRepr : Op2G P w K mg base 2 C "__repr__" ["self"] (sp_prepr K C)) : FnG P w K mg base 9 f fd ["_law_made", "_law_rows"] (sp_tright K C) := by
  refine dfG F sc_tright (fun vs H Q E h => ?_) (fun cdv A outer s H vs Q E hr ga h => ?_)
  · obtain ⟨m, v, rs, rfl, _⟩ := h
    rfl
  · obtain ⟨m, v, rs, rfl, hm, hv, q⟩ := h
    obtain ⟨a, xs, rfl, hs, ha⟩ := hv.lstE
    have hxl : xs.length = rs.length := by rw [ha.len, List.length_map]
    have len1 := hm.ok.1
    have len3 := hm.ok.2.1
    refine ⟨_, (pss_cons (ps_if (PW.pt (pw_or (pt_cmpR op_ne (pe_callB (call_reprD' ga hr) (by rfl) B.repr bt_repr (pa_cons (pe_me0 cRds hr (by decide) (pv 0)) pa_nil)) (pe_callB (call_reprD' ga hr) (by rfl) B.repr bt_repr (pa_cons (pv 1) pa_nil)) (nomark _)) (pw_or (pt_cmpR op_ne (pe_callB (call_lenO' cLen hr (by decide)) (by rfl) B.len bt_len (pa_cons (pv 0) pa_nil)) (pe_callB call_len_seq' (by rfl) B.len bt_len (pa_cons (pv 1) pa_nil)) (nomark _)) (pw_or1 (pt_cmpR op_ne (pe_callB (call_reprG' cRepr hr ga (by decide)) (by rfl) B.repr bt_repr (pa_cons (pv 0) pa_nil)) (pe_op op_add_str' (pe_op op_add_str' pe_str (pe_slice sl_str (pe_callB (call_reprD' ga hr) (by rfl) B.repr bt_repr (pa_cons (pv 1) pa_nil)) (po_some pe_int) (po_some (pe_un un_neg pe_int)))) pe_str) (nomark _))))))
  (pss_one (ps_ret pe_bl))
  pss_nil)
  (pss_cons (ps_if (PW.pt (pw_or (pt_not (pt_val (pe_callB (cr_all' rfl) (by rfl) B.all bt_all (pa_cons (pe_lc (own := [("_law_k", 2)]) (by rfl) sc_tright.nd (pi_range1 (by rfl) B.range (pa_cons (pe_callB call_len_seq' (by rfl) B.len bt_len (pa_cons (pv 1) pa_nil)) pa_nil)) (blkOk_by (own := [("_law_k", 2)]) (N := ["_law_made", "_law_rows", "_law_k", "_law_told"]) (sc := defScope s_tright) (by decide +kernel)) (fun _ _ _ _ _ => (pg_name (i := 2) sc_tright.nd rfl (Or.inl rfl))) (fun _ _ _ _ _ => pts_nil) (fun _ _ _ _ _ => (pe_g cRr hr ga (by decide) (by rfl) (pa_cons (pv 0) (pa_cons (pv 1) (pa_cons (pv 2) pa_nil)))))) pa_nil)))) (pw_or1 (pt_not (pt_val (pe_g cCr hr ga (by decide) (by rfl) (pa_cons (pv 0) (pa_cons (pv 1) pa_nil))))))))
  (pss_one (ps_ret pe_bl))
  pss_nil)
  (pss_cons (ps_set (i := 3) sc_tright.nd rfl (Or.inl rfl) (pe_me0 cRds hr (by decide) (pv 0)))
  (pss_cons (ps_expr (pe_bm' PySem.F.plainAttrs_list PySem.F.slot_list_append PySem.F.type_list_append mt_append (pe_ix ix_list' (pv 3) pe_int (fun _ _ => rfl)) (pa_cons (pe_tup (pa_cons pe_str (pa_cons pe_int pa_nil))) pa_nil)))
  (pss_cons (ps_if (pt_cmpR op_ne (pe_callB (call_reprD' ga hr) (by rfl) B.repr bt_repr (pa_cons (pe_slice sl_list' (pv 3) (po_some pe_int) po_none) pa_nil)) (pe_callB (call_reprD' ga hr) (by rfl) B.repr bt_repr (pa_cons (pe_slice sl_list' (pv 1) (po_some pe_int) po_none) pa_nil)) (nomark _))
  (pss_one (ps_ret pe_bl))
  pss_nil)
  (pss_cons (ps_expr (pe_bm' PySem.F.plainAttrs_list PySem.F.slot_list_append PySem.F.type_list_append mt_append (pv 3) (pa_cons (pe_lst (pa_cons (pe_tup (pa_cons pe_str (pa_cons pe_int pa_nil))) pa_nil)) pa_nil)))
  (pss_cons (ps_expr (pe_bm0 PySem.F.plainAttrs_list PySem.F.slot_list_clear PySem.F.type_list_clear mt_clear (pe_ix ix_list' (pv 3) pe_int (fun _ _ => rfl))))
  (pss_one (ps_ret (pe_cmpR op_eq (pe_callB (call_reprD' ga hr) (by rfl) B.repr bt_repr (pa_cons (pe_me0 cRds hr (by decide) (pv 0)) pa_nil)) (pe_callB (call_reprD' ga hr) (by rfl) B.repr bt_repr (pa_cons (pv 1) pa_nil)) (nomark _))))))))))), ?_⟩
    refine go_start (σ := [some _, some _, none, none]) rfl ?_
    walk_at "go"
    rename_i l1 ys1 H1 n1 s1 e1 w1
    refine go_reprD (new_rds w1 e1) (sh_rds hm.ok) ?_
    have hv1 := hv.up s1
    walk_at "go"
    refine go_reprD hv1 (sh_rds hm.ok) ?_
    refine go_neSS ?_
    have hm1 := hm.same s1
    walk_at "go"
    refine len_plan hm1 ?_
    walk_at "go"
    refine go_reprP hm1 fun H2 s2 => ?_
    have hv2 := hv1.up s2
    walk_at "go"
    refine go_reprD hv2 (sh_rds hm.ok) ?_
    walk_at "go"
    have lS : (pRds rs).shown.length ≤ 403 * 198 + 403 := (sm_rds hm.ok).len
    have lC := cutS_length (pRds rs).shown (some 1) (some (-1))
    have z1 : 200000 ≤ sizeLine := by decide
    have p5 : ("Plan(" : Str).length = 5 := by decide +kernel
    have p1 : (")" : Str).length = 1 := by decide +kernel
    refine ⟨_, rfl, (sh_rds hm.ok).2.2.2, ?_⟩
    refine ⟨_, _, rfl, rfl, ?_, ?_⟩
    · rw [p5]
      exact Nat.le_trans (Nat.add_le_add_left (Nat.le_trans lC lS) _) (Nat.le_trans (by decide) z1)
    refine ⟨_, _, rfl, rfl, ?_, ?_⟩
    · rw [strLen_append, p5, p1]
      exact Nat.le_trans (Nat.add_le_add_right (Nat.add_le_add_left (Nat.le_trans lC lS) _) _) (Nat.le_trans (by decide) z1)
    refine (?_ : rNe (.str (planTxt rs)) (.str ((("Plan(" : Str) ++ cutS (pRds rs).shown (some 1) (some (-1))) ++ (")" : Str))) H2 _)
    rw [planTxt_cut]
    refine go_neSS ?_
    have s02 : Same H H2 := s1.trans s2
    have hm2 := hm1.same s2
    clear lS lC z1 p5 p1 e1 w1 n1 hv1 hm1
    walk_at "go"
    refine lcRange (K := K) (fun _ => .bool true) (by omega) (fun _ _ => rfl) (fun _ => rfl) (fun i H3 Q' hi s3 hq => ?_) (fun D H3 ys nD s3 eD hall => ?_)
    · walk_at "go"
      exact hq _ _ (by tb_rel) (.bl true)
    · have e2 := trues hall
      subst e2
      walk_at "go"
      refine go_all (SqL.of eD) ?_
      rw [trues_all]
      have s03 : Same H H3 := s02.trans s3
      have hm3 := hm2.same s3
      have hv3 := hv2.up s3
      clear s02 hm2 hv2 s2 s1 s3 eD nD
      walk_at "go"
      rename_i H4 s4 l5 ys5 H5 n5 s5 e5 w5
      have s05 : Same H H5 := (s03.trans s4).trans s5
      obtain ⟨qs, rfl, nd, nl, hql, hqs⟩ := w5.ex
      obtain ⟨r0, rt, rfl⟩ := List.exists_cons_of_length_pos (Nat.lt_of_lt_of_le Nat.zero_lt_one len1)
      obtain ⟨q0, qt, rfl⟩ := List.exists_cons_of_length_pos (l := qs) (by rw [hql]; exact Nat.succ_pos _)
      obtain ⟨nq0, _, zs0, ez0, hz0⟩ := hqs 0 q0 _ rfl rfl
      refine go_ixl (SqL.of e5) (atI_nat (j := 0) (List.getElem?_cons_zero ..)) ?_
      walk_at "go"
      rename_i t6 H6 n6 s6 e6
      have r0k := hm.ok.2.2.1 r0 (List.mem_cons_self ..)
      have R5 : RowsAt K H5 l5 (q0 :: qt) (r0 :: rt) := ⟨e5, by rw [hql, List.length_map], fun j q r h1 h2 => by
        obtain ⟨_, _, zs, e, d⟩ := hqs j q (r.map pCut) h1 (by rw [List.getElem?_map, h2]; rfl)
        exact ⟨zs, e, d⟩⟩
      have R6 := R5.same s6
      have lz : zs0.length ≤ 5 := by rw [hz0.len, List.length_map]; exact r0k.2.1
      have ez6 : H6 q0 = some (.lst zs0) := s6 _ _ ez0
      have s04 : Same H H4 := s03.trans s4
      have hn0 : H q0 = none := same_none s04 nq0
      have hnl : H l5 = none := same_none s04 n5
      refine go_app ez6 (Nat.lt_of_le_of_lt lz (by decide)) ?_
      have R7 := R6.app (c := (0, 2)) nd nl (j := 0) rfl rfl ez6 (hz0.up s6) (.tup (SqT.of e6) (.cons (.str _) (.cons (.int _) .nil)))
      have s07 : Same H (upd H6 q0 (.lst (zs0 ++ [.ref t6]))) := fun c o ec => by rw [upd_ne (ne_of_none ec hn0)]; exact s6 _ _ (s05 _ _ ec)
      generalize upd H6 q0 (.lst (zs0 ++ [.ref t6])) = H7 at R7 s07 ⊢
      clear R5 R6 hqs e5 w5 ez0 hz0 e6 s6 ez6 s04 s4 s5 n5 nq0 n6 s05 s03 hm3 hv3
      have hm7 := hm.same s07
      have hv7 := hv.up s07
      have e7 := R7.at_
      walk_at "go"
      rename_i p8 H8 n8 s8 e8
      have d8 : Dp K H8 (.ref p8) (pRds rt) := .lst (SqL.of e8) (by
        have := (R7.same s8).dp
        cases this with
        | cons _ h => exact h)
      refine go_reprD d8 (sh_tail hm.ok) ?_
      walk_at "go"
      rename_i p9 H9 n9 s9 e9
      have d9 : Dp K H9 (.ref p9) (pRds rt) := .lst (SqL.of e9) (by
        have := ha.up ((s07.trans s8).trans s9)
        cases this with
        | cons _ h => exact h)
      refine go_reprD d9 (sh_tail hm.ok) ?_
      refine go_neSS ?_
      have R9 := (R7.same s8).same s9
      have s09 := (s07.trans s8).trans s9
      clear d8 d9 e8 e9 s8 s9 n8 n9 R7 s07 hm7 hv7 e7
      have e9 := R9.at_
      walk_at "go"
      rename_i p10 H10 n10 s10 e10 p11 H11 n11 s11 e11
      obtain ⟨zs9, ez9, _⟩ := R9.row 0 q0 _ rfl rfl
      have ql : q0 ≠ l5 := fun h => nl (h ▸ List.mem_cons_self ..)
      have lq : ((q0 :: qt).map V.ref).length < sizeLine := by
        rw [List.length_map, hql, List.length_map]
        exact Nat.lt_of_le_of_lt len3 (by decide)
      refine go_app (s11 _ _ (s10 _ _ e9)) lq ?_
      have s12 : Same H (upd H11 l5 (.lst ((q0 :: qt).map V.ref ++ [.ref p11]))) := fun c o ec => by rw [upd_ne (ne_of_none ec hnl)]; exact s11 _ _ (s10 _ _ (s09 _ _ ec))
      have e12 : upd H11 l5 (.lst ((q0 :: qt).map V.ref ++ [.ref p11])) l5 = some (.lst ((q0 :: qt).map V.ref ++ [.ref p11])) := upd_same
      have ez12 : upd H11 l5 (.lst ((q0 :: qt).map V.ref ++ [.ref p11])) q0 = some (.lst zs9) := by rw [upd_ne ql]; exact s11 _ _ (s10 _ _ ez9)
      generalize upd H11 l5 (.lst ((q0 :: qt).map V.ref ++ [.ref p11])) = H12 at s12 e12 ez12 ⊢
      clear R9 s09 e9 s10 s11 e10 e11 n10 n11 ez9
      walk_at "go"
      refine (?_ : tOp (rIxL K) (tVar 3) (tC (.int 0)) _ H12 (fun x H1 => tyV K "list" x H1 ∧ rClear x [] H1 _))
      walk_at "go"
      refine go_ixl (v := .ref q0) (SqL.of e12) (atI_nat (j := 0) rfl) ?_
      refine ⟨Or.inl ⟨rfl, _, SqL.of ez12⟩, _, _, rfl, rfl, ez12, ?_⟩
      have s13 : Same H (upd H12 q0 (.lst [])) := fun c o ec => by rw [upd_ne (ne_of_none ec hn0)]; exact s12 _ _ ec
      generalize upd H12 q0 (.lst []) = H13 at s13 ⊢
      clear s12 e12 ez12
      have hm13 := hm.same s13
      walk_at "go"
      rename_i l14 ys14 H14 n14 s14 e14 w14
      refine go_reprD (new_rds w14 e14) (sh_rds hm.ok) ?_
      have hv14 := (hv.up s13).up s14
      walk_at "go"
      refine go_reprD hv14 (sh_rds hm.ok) ?_
      refine go_eqSS ?_
      exact q _ (s13.trans s14)
end
end T
set_option Elab.async false
set_option maxRecDepth 100000
set_option maxHeartbeats 4000000
namespace T
open PySem L2 Mv
abbrev s_turight : Stmt := top 50
theorem sc_turight : FnScope ["_law_made", "_law_rows", "_law_due", "_law_axis", "_law_pieces", "_law_row", "_law_found"] ["_law_made", "_law_rows"] (defScope s_turight) := ⟨rfl, rfl, rfl, by decide +kernel, rfl, by decide +kernel, by decide +kernel⟩
section
variable {P : Program} {w : World} {K : PySem.W.Frag} {mg : Str → Option Value} {base : Heap} {C AX : Addr}
def sp_turight (K : PySem.W.Frag) (C : Addr) : Sp := fun vs H Q _ => ∃ (m v : V) (rs : List (List Pm.Cut)), vs = [m, v] ∧ PlanAt K C H m rs ∧ Dp K H v (pRds rs) ∧ ∀ H', Same H H' → Q (.bl true) H'
theorem c_turight {K : PySem.W.Frag} {C : Addr} {m v : V} {rs : List (List Pm.Cut)} {H : Hp} {Q : VK} {E : XK} (h0 : PlanAt K C H m rs) (h1 : Dp K H v (pRds rs)) (q : ∀ H', Same H H' → Q (.bl true) H') : sp_turight K C [m, v] H Q E := ⟨_, _, _, rfl, h0, h1, q⟩
local macro_rules | `(tactic| tb_rel) => `(tactic| repeat (first
  | with_reducible assumption
  | with_reducible exact Dp.int _
  | with_reducible exact Dp.str _
  | with_reducible exact Dp.bl _
  | with_reducible exact Dp.non
  | (with_reducible apply SqT.of; with_reducible assumption)
  | (with_reducible apply SqL.of; with_reducible assumption)
  | (with_reducible apply up_dp; with_reducible assumption)
  | (with_reducible apply up_sqt; with_reducible assumption)
  | (with_reducible apply up_sql; with_reducible assumption)
  | (with_reducible apply up_get; with_reducible assumption)
  | (with_reducible apply up_pot; with_reducible assumption)
  | with_reducible exact Same.refl _
  | with_reducible exact Bu.refl _ _
  | (with_reducible apply up_same; with_reducible assumption)
  | (with_reducible apply up_bu; with_reducible assumption)
  | (with_reducible apply bu_bu; with_reducible assumption)
  | (with_reducible apply free_of; with_reducible assumption)
  | (with_reducible apply mi_fr; with_reducible assumption; (focus (tb_rel; done)))
  | (with_reducible apply mi_dp; with_reducible assumption)
  | (with_reducible apply mi_sqt; with_reducible assumption)
  | (with_reducible apply mi_sql; with_reducible assumption)
  | (with_reducible apply mi_gett; with_reducible assumption)
  | (with_reducible apply mi_getl; with_reducible assumption)
  | (with_reducible apply mi_pot; with_reducible assumption)
  | (with_reducible apply mi_refl; with_reducible assumption; (focus (with_unfolding_all exact rfl)))
  | (with_reducible apply up_mi; with_reducible assumption)
  | (with_reducible apply mi_mi; with_reducible assumption)
  | (with_reducible apply mi_bu; with_reducible assumption)
  | (with_reducible apply up_plan; with_reducible assumption)
  | (with_reducible apply bu_plan; with_reducible assumption; (focus (tb_rel; done)))
  | (with_reducible apply mi_plan; with_reducible assumption; (focus (lcg_src; done)))
  | (with_reducible apply up_bd; with_reducible assumption)
  | (with_reducible apply bd_bd; with_reducible assumption)
  | (with_reducible apply bd_same; with_reducible assumption; (focus (tb_rel; done)))
  | (with_reducible apply bd_bup; with_reducible assumption; (focus (tb_rel; done)))
  | (with_reducible apply bu_getd; with_reducible assumption; (focus (tb_rel; done)))
  | (with_reducible apply bd_dp; with_reducible assumption)
  | (with_reducible apply bd_sqt; with_reducible assumption)
  | (with_reducible apply bd_sql; with_reducible assumption)
  | (with_reducible apply bd_gett; with_reducible assumption)
  | (with_reducible apply bd_getl; with_reducible assumption)
  | (with_reducible apply bd_geti; with_reducible assumption)
  | (with_reducible apply bd_pot; with_reducible assumption)
  | (with_reducible apply pf_dp; with_reducible assumption; (focus (tb_rel; done)); (focus (lcg_src; done)))
  | (with_reducible apply bu_gett; with_reducible assumption; (focus (tb_rel; done)))
  | (with_reducible apply bu_geti; with_reducible assumption; (focus (tb_rel; done)))
  | (with_reducible apply bu_get; with_reducible assumption; (focus (tlg_ne; done)))
  | (with_reducible apply bu_sqt; with_reducible assumption; (focus (tb_rel; done)))
  | (with_reducible apply bu_sql; with_reducible assumption; (focus (tlg_ne; done)))
  | (with_reducible apply bu_dp; with_reducible assumption; (focus (tb_rel; done)); (focus (lcg_src; done)))
  | fail "up"))
local macro_rules | `(tactic| tlg_ne) => `(tactic| first
  | with_reducible assumption
  | (with_reducible apply pot_ne; with_reducible assumption; (focus (tb_rel; done)))
  | fail "ne")
local macro_rules | `(tactic| lcg_src) => `(tactic| first
  | with_reducible assumption
  | with_unfolding_all exact rfl
  | with_unfolding_all decide
  | with_unfolding_all exact Nat.ne_of_beq_eq_false rfl
  | (apply_assumption; done)
  | omega
  | (simp; done)
  | (simp; omega)
  | fail "sd")
local macro_rules | `(tactic| lcg_sub) => `(tactic| first
  | (unfold sizeLine; omega)
  | (simp only [List.length_cons, List.length_nil, List.length_append, List.length_map, List.length_replicate, List.length_take, List.length_drop]; unfold sizeLine; omega)
  | (simp; unfold sizeLine; omega)
  | fail "sz")
local macro_rules | `(tactic| nest_cls) => `(tactic| first
  | (tb_rel; done)
  | (with_reducible apply nmI; (focus (tb_rel; done)))
  | (with_reducible apply d_tup; (focus (tb_rel; done)); (focus (lsm_bools; done)))
  | (with_reducible apply d_lst; (focus (tb_rel; done)); (focus (lsm_bools; done)))
  | fail "dp")
local macro_rules | `(tactic| lsm_bools) => `(tactic| repeat (first
  | with_reducible exact DpAll.nil
  | with_reducible assumption
  | (with_reducible apply DpAll.cons; (focus (nest_cls; done)))
  | fail "dpa"))
local macro_rules | `(tactic| none_booked) => `(tactic| first | with_unfolding_all exact rfl | (with_reducible apply atI_nat; with_reducible assumption) | fail "ix")
local macro_rules | `(tactic| walk_at "go") => `(tactic| repeat (first
  | (focus (with_reducible refine go_var (v := ?_) ?_ ?_; rotate_left; (focus (with_unfolding_all exact rfl))))
  | with_reducible refine go_seq ?_
  | with_reducible refine go_cN ?_
  | with_reducible refine go_c ?_
  | with_reducible refine go_op ?_
  | with_reducible refine go_nil ?_
  | with_reducible refine go_cons ?_
  | with_reducible refine go_cb ?_
  | with_reducible refine go_call0 ?_
  | with_reducible refine go_asg ?_
  | (focus (with_reducible refine go_gname (σ' := ?_) ?_ ?_; rotate_left; (focus (simp only [List.set_cons_succ, List.set_cons_zero]; exact rfl))))
  | with_reducible refine go_par ?_
  | with_reducible refine go_par3 ?_
  | (focus (with_reducible refine go_par3k (σ' := ?_) ?_ ?_; rotate_left; (focus (simp only [List.set_cons_succ, List.set_cons_zero]; exact rfl))))
  | with_reducible refine go_bm ?_
  | (with_reducible apply go_bmL; (focus (tb_rel; done)))
  | (with_reducible apply go_fdX; (focus (with_reducible assumption; done)))
  | (with_reducible apply go_rI; (focus (with_reducible assumption; done)))
  | (focus (with_reducible refine go_par2 (σ' := ?_) ?_ ?_; rotate_left; (focus (simp only [List.set_cons_succ, List.set_cons_zero]; exact rfl))))
  | with_reducible refine go_ifs ?_
  | with_reducible refine go_test ?_
  | with_reducible refine go_tb ?_
  | with_reducible refine go_asb ?_
  | with_reducible refine go_asi ?_
  | with_reducible refine go_ret ?_
  | with_reducible refine go_retn ?_
  | with_reducible refine go_drop ?_
  | with_reducible refine go_next ?_
  | with_reducible refine go_and ?_
  | with_reducible refine go_or ?_
  | with_reducible refine go_not ?_
  | with_reducible refine go_andv ?_
  | with_reducible refine go_orv ?_
  | with_reducible refine go_notv ?_
  | with_reducible refine go_ife ?_
  | with_reducible refine go_chain ?_
  | with_reducible refine go_if1 ?_
  | with_reducible refine go_if0 ?_
  | with_reducible refine go_ifn1 ?_
  | with_reducible refine go_ifn0 ?_
  | (with_reducible apply go_ift; (focus (first | with_reducible rfl | with_reducible assumption | omega)))
  | (with_reducible apply go_ifnt; (focus (first | with_reducible rfl | with_reducible assumption | omega)))
  | (with_reducible apply go_iff; (focus (first | with_reducible assumption | omega)))
  | (with_reducible apply go_ifnf; (focus (first | with_reducible assumption | omega)))
  | with_reducible refine go_un ?_
  | with_reducible refine go_tup ?_
  | with_reducible refine go_lst ?_
  | (with_reducible apply go_newt; (focus (lcg_sub; done)); intros)
  | (with_reducible apply go_newl; (focus (lcg_sub; done)); intros)
  | with_reducible refine go_meth ?_
  | with_reducible refine go_for ?_
  | with_reducible refine go_lc ?_
  | with_reducible refine go_irng1 ?_
  | with_reducible refine go_irng2 ?_
  | with_reducible refine go_ilist ?_
  | with_reducible refine go_itup ?_
  | with_reducible refine go_izip ?_
  | with_reducible refine go_ienum ?_
  | (with_reducible apply go_rg1; (focus (lcg_src; done)))
  | (with_reducible apply go_rg2; (focus (lcg_src; done)); (focus (lcg_src; done)))
  | (with_reducible apply go_lsr; (focus (tb_rel; done)))
  | (with_reducible apply go_tpr; (focus (tb_rel; done)))
  | (with_reducible apply go_zpr; (focus (tb_rel; done)); (focus (tb_rel; done)))
  | (with_reducible apply go_zprT; (focus (tb_rel; done)); (focus (tb_rel; done)))
  | (with_reducible apply go_enrL; (focus (tb_rel; done)))
  | (with_reducible apply go_enrT; (focus (tb_rel; done)))
  | with_reducible refine go_prop ?_
  | with_reducible refine go_knr0 ?_
  | (with_reducible apply go_knr; (focus (with_unfolding_all exact rfl; done)); (focus (simp only [kSw2, kRev3, kId, List.nil_append, List.cons_append]; exact rfl)))
  | with_reducible refine go_mkn ?_
  | (with_reducible apply go_mkr; (focus (tb_rel; done)); (focus (with_unfolding_all exact rfl; done)))
  | with_reducible refine go_fld ?_
  | (with_reducible apply go_flr; (focus (tb_rel; done)); (focus (with_reducible assumption; done)); (focus (with_reducible assumption; done)); (focus (with_unfolding_all exact rfl; done)))
  | (with_reducible apply go_prr; (focus (tb_rel; done)))
  | (with_reducible apply go_mer; (focus (tb_rel; done)); (focus (with_unfolding_all exact rfl; done)))
  | with_reducible refine go_sfld ?_
  | (with_reducible apply go_sfr; (focus (tb_rel; done)); (focus (with_reducible assumption; done)); (focus (with_reducible assumption; done)); (focus (with_unfolding_all exact Nat.le_of_ble_eq_true rfl; done)); (focus (with_unfolding_all exact rfl; done)); intros)
  | with_reducible refine go_revt ?_
  | with_reducible refine go_make0 ?_
  | (focus (with_reducible refine go_aug (x := ?_) ?_ ?_; rotate_left; (focus (with_unfolding_all exact rfl))))
  | (focus (with_reducible refine go_augk (σ' := ?_) ?_ ?_; rotate_left; (focus (simp only [List.set_cons_succ, List.set_cons_zero]; exact rfl))))
  | with_reducible refine go_min2 ?_
  | with_reducible refine go_int1 ?_
  | with_reducible refine go_max2 ?_
  | with_reducible refine go_intB ?_
  | with_reducible refine go_absN ?_
  | with_reducible refine go_isN ?_
  | with_reducible refine go_notN ?_
  | (with_reducible apply go_rvt; (focus (tb_rel; done)); (focus (simp only [List.reverse_cons, List.reverse_nil, List.nil_append, List.cons_append]; exact rfl)); intros)
  | (with_reducible apply go_reprNm; (focus (tb_rel; done)); (focus (with_reducible assumption; done)))
  | (with_reducible apply go_reprPr; (focus (nest_cls; done)); (focus (lcg_src; done)); (focus (lcg_src; done)))
  | with_reducible refine go_sl ?_
  | with_reducible refine go_part ?_
  | with_reducible refine go_nopart ?_
  | (with_reducible apply go_gtup; (focus (tb_rel; done)); (focus (with_unfolding_all exact rfl; done)))
  | (with_reducible apply go_gunl; (focus (tb_rel; done)); (focus (with_unfolding_all exact rfl; done)))
  | with_reducible refine go_gcons ?_
  | with_reducible refine go_gnil ?_
  | with_reducible refine go_addN ?_
  | with_reducible refine go_ltN ?_
  | with_reducible refine go_leN ?_
  | with_reducible refine go_gtN ?_
  | with_reducible refine go_geN ?_
  | (with_reducible apply go_subN; (focus (omega; done)))
  | with_reducible refine go_rI0 ?_
  | (with_reducible apply go_mulN; (focus (omega; done)))
  | (with_reducible apply go_modN; (focus (omega; done)))
  | (with_reducible apply go_divN; (focus (omega; done)))
  | (with_reducible apply go_powN; (focus (with_unfolding_all decide; done)))
  | with_reducible refine go_rU ?_
  | with_reducible refine go_eqN ?_
  | with_reducible refine go_neN ?_
  | with_reducible refine go_isB ?_
  | with_reducible refine go_notB ?_
  | with_reducible refine go_eqS ?_
  | with_reducible refine go_neS ?_
  | with_reducible refine go_eqB ?_
  | with_reducible refine go_eqI ?_
  | with_reducible refine go_neI ?_
  | (with_reducible apply go_ixt; (focus (tb_rel; done)); (focus (none_booked; done)))
  | (with_reducible apply go_ixl; (focus (tb_rel; done)); (focus (none_booked; done)))
  | (with_reducible apply go_lent; (focus (tb_rel; done)))
  | (with_reducible apply go_lenNm; (focus (tb_rel; done)))
  | (with_reducible apply go_isiNm; (focus (tb_rel; done)))
  | (with_reducible apply go_lenl; (focus (tb_rel; done)))
  | (with_reducible apply go_catA; (focus (tb_rel; done)); (focus (tb_rel; done)); (focus (lcg_sub; done)); intros)
  | (with_reducible apply go_slaT; (focus (tb_rel; done)); intros)
  | (with_reducible apply go_slaD; (focus (tb_rel; done)); intros)
  | (with_reducible apply go_rep; (focus (tb_rel; done)); (focus (lcg_src; done)); intros)
  | (with_reducible apply go_tupofl; (focus (tb_rel; done)); intros)
  | (with_reducible apply go_sllT; (focus (tb_rel; done)); intros)
  | (with_reducible apply go_sllD; (focus (tb_rel; done)); intros)
  | (with_reducible apply go_cat; (focus (tb_rel; done)); (focus (tb_rel; done)); (focus (lcg_sub; done)); intros)
  | (with_reducible apply go_eqP; with_reducible assumption; (focus (tb_rel; done)); (focus (tb_rel; done)))
  | (with_reducible apply go_neP; with_reducible assumption; (focus (tb_rel; done)); (focus (tb_rel; done)))
  | (with_reducible apply go_mep; (focus (tb_rel; done)); (focus decide); (focus decide); (focus decide))
  | (with_reducible apply c_peq; (focus (tb_rel; done)); (focus (tb_rel; done)); intros)
  | (with_reducible apply c_prounds; (focus (tb_rel; done)); intros)
  | (with_reducible apply c_tright; (focus (tb_rel; done)); (focus (nest_cls; done)); intros)
  | (with_reducible apply c_turight; (focus (tb_rel; done)); (focus (nest_cls; done)); intros)
  | (with_reducible apply c_turned; (focus (tb_rel; done)); intros)
  | with_reducible refine go_dget ?_
  | with_reducible refine go_dgr2 ?_
  | with_reducible refine go_dput ?_
  | with_reducible refine go_dpr2 ?_
  | with_reducible refine go_dpt ?_
  | with_reducible refine go_pnil ?_
  | with_reducible refine go_pcons ?_
  | with_reducible refine go_gsub ?_
  | with_reducible refine go_sir ?_
  | with_reducible refine go_lrg ?_
  | with_reducible refine go_rgt2 ?_
  | with_reducible refine go_rge ?_
  | with_reducible refine go_revl ?_
  | (with_reducible apply go_dgk; (focus (tb_rel; done)); with_reducible assumption)
  | (with_reducible apply go_dpk; (focus (tb_rel; done)); (focus (lcg_sub; done)); intros)
  | (with_reducible apply go_disp; intros)
  | (with_reducible apply go_dsk2; (focus (tb_rel; done)); intros)
  | (with_reducible apply go_lrr; (focus (omega; done)); (focus (omega; done)); intros)
  | (with_reducible apply go_rvl; (focus (tb_rel; done)); intros)
  | (with_reducible apply go_knr; (focus (with_unfolding_all exact rfl; done)); (focus (simp only [kSwM]; exact rfl)))
  | (with_reducible apply go_mkp; (focus (tb_rel; done)); (focus decide); (focus decide); (focus decide))
  | with_reducible refine go_cv ?_
  | with_reducible refine go_cvr ?_
  | with_reducible refine go_mkr1 ?_
  | with_reducible refine go_cma ?_
  | with_reducible refine go_cmk ?_
  | with_reducible refine go_cmr ?_
  | with_reducible refine go_ckr ?_
  | (with_reducible apply go_mkL; (focus (with_unfolding_all exact rfl)))
  | (with_reducible apply go_cmv; (focus (with_unfolding_all exact rfl)); (focus (simp only [gApp, kId, List.nil_append, List.cons_append, List.append_nil]; exact rfl)))
  | (with_reducible apply go_ckv; (focus (with_unfolding_all exact rfl)); (focus (simp only [gApp, kId, List.nil_append, List.cons_append, List.append_nil]; exact rfl)))
  | fail "go"))
theorem ok_turight {f : Addr} {fd : FuncData} (F : Df K "_law_turned_right" "_law_turned_right" s_turight [] f fd) (B : Blt mg) (G : PlG K mg C AX) (cTr : Cg P w K mg base 9 "_law_told_right" ["_law_made", "_law_rows"] (sp_tright K C) []) (cRds : Me P w K mg base 1 C "rounds" (sp_prounds K C) []) (cTu : Me P w K mg base 8 C "turned" (sp_turned K C) []) (cEqP : Op2 P w K mg base 1 C "__eq__" (sp_peq K C)) : FnG P w K mg base 10 f fd ["_law_made", "_law_rows"] (sp_turight K C) := by
  refine dfG F sc_turight (fun vs H Q E h => ?_) (fun cdv A outer s H vs Q E hr ga h => ?_)
  · obtain ⟨m, v, rs, rfl, _⟩ := h
    rfl
  · obtain ⟨m, v, rs, rfl, hm, hv, q⟩ := h
    obtain ⟨a, xs, rfl, hs, ha⟩ := hv.lstE
    have hxl : xs.length = rs.length := by rw [ha.len, List.length_map]
    have len1 := hm.ok.1
    have len3 := hm.ok.2.1
    refine ⟨_, (pss_cons (ps_setLc (i := 2) (own := [("_law_row", 5)]) (by rfl) sc_turight.nd rfl rfl (sw_true rfl rfl rfl (by decide +kernel)) (pi_list' (pv 1)) (blkOk_by (own := [("_law_row", 5)]) (N := ["_law_made", "_law_rows", "_law_due", "_law_axis", "_law_pieces", "_law_row", "_law_found"]) (sc := defScope s_turight) (by decide +kernel)) (fun _ _ _ _ _ => (pg_name (i := 5) sc_turight.nd rfl (Or.inl rfl))) (fun _ _ _ _ _ => pts_nil) (fun _ _ _ _ _ => (pe_lc (own := [("_law_axis", 3), ("_law_pieces", 4)]) (by rfl) sc_turight.nd (pi_list' (pv 5)) (blkOk_by (own := [("_law_axis", 3), ("_law_pieces", 4)]) (N := ["_law_made", "_law_rows", "_law_due", "_law_axis", "_law_pieces", "_law_row", "_law_found"]) (by kernel_rfl)) (fun _ _ _ _ _ => (pg_tup' 2 (pgs_cons (pg_name (i := 3) sc_turight.nd rfl (Or.inl rfl)) (pgs_cons (pg_name (i := 4) sc_turight.nd rfl (Or.inl rfl)) pgs_nil)))) (fun _ _ _ _ _ => pts_nil) (fun _ _ _ _ _ => (pe_tup (pa_cons (pe_ifExp (pt_cmpR op_eq (pv 3) pe_str (nomark _)) pe_str pe_str) (pa_cons (pv 4) pa_nil)))))))
  (pss_cons (ps_set (i := 6) sc_turight.nd rfl (Or.inl rfl) (pe_me0 cTu hr (by decide) (pv 0)))
  (pss_one (ps_ret (pe_and (pe_g cTr hr ga (by decide) (by rfl) (pa_cons (pv 6) (pa_cons (pv 2) pa_nil))) (pe_and (pe_cmpR (op_eqO' cEqP hr (by decide)) (pe_me0 cTu hr (by decide) (pv 6)) (pv 0) (nomark _)) (pe_one (pe_cmpR op_eq (pe_callB (call_reprD' ga hr) (by rfl) B.repr bt_repr (pa_cons (pe_me0 cRds hr (by decide) (pv 0)) pa_nil)) (pe_callB (call_reprD' ga hr) (by rfl) B.repr bt_repr (pa_cons (pv 1) pa_nil)) (nomark _))))))))), ?_⟩
    refine go_start (σ := [some _, some _, none, none, none, none, none]) rfl ?_
    walk_at "go"
    have oT := hm.ok.turn
    refine lcNews (K := K) (walk_list (xs := xs)) (fun i => ((Pm.turn rs).getD i []).map pCut) (by omega) (fun i _ => nl_cuts _) (fun H' s => s.seq hs) (fun i x H1 H2 Q' hi s1 hy hq => ?_) (fun D H1 ys nD s1 eD hn => ?_) gName_mono
    · obtain ⟨rfl, hx⟩ := hy
      refine ⟨rfl, ?_⟩
      obtain ⟨d, hd1, hd2⟩ := (ha.up s1).get hx
      rw [List.getElem?_map] at hd1
      obtain ⟨r, hr1, rfl⟩ := Option.map_eq_some_iff.mp hd1
      obtain ⟨c, zs, rfl, hzs, hza⟩ := hd2.lstE
      have hro := hm.ok.2.2.1 r (List.mem_of_getElem? hr1)
      have hzl : zs.length = r.length := by rw [hza.len, List.length_map]
      have hr5 := hro.2.1
      walk_at "go"
      refine lcGen (K := K) (walk_list (xs := zs)) (fun j => pCut (Pm.tu (r.getD j (0, 0)))) (by omega) (fun _ _ => rfl) (fun H' s => s.seq hzs) (fun j y G1 G2 Q2 hj z1 hy hq2 => ?_) (fun D G1 ys nD z1 eD hD => ?_) gTup2_mono
      · obtain ⟨e22, hy⟩ := hy
        subst e22
        obtain ⟨d, hd1, hd2⟩ := (hza.up z1).get hy
        rw [List.getElem?_map] at hd1
        obtain ⟨c1, hc1, rfl⟩ := Option.map_eq_some_iff.mp hd1
        rw [List.getD_eq_getElem?_getD, hc1] at hq2
        obtain ⟨t, rfl, ht⟩ := cut_at hd2
        have hc := hro.2.2.1 c1 (List.mem_of_getElem? hc1)
        refine ⟨t, _, rfl, ht, rfl, _, _, rfl, _, _, rfl, rfl, rfl, ?_⟩
        have key : ∀ v, v = V.str (axn (Pm.tu c1).1) → ∀ t2, G2 t2 = none → Q2 (.ref t2) (upd G2 t2 (.tup [v, .int c1.2])) := fun v ev t2 ht2 => by
          subst ev
          exact hq2 _ _ (same_new ht2) (.tup (SqT.of upd_same) (.cons (.str _) (.cons (.int _) .nil)))
        have e3 := tu_str hc
        refine ⟨_, rfl, rfl, _, rfl, ite2 (fun h => ?_) (fun h => ?_)⟩
        · rw [if_pos h] at e3
          exact ⟨_, rfl, by show 2 ≤ sizeLine; decide, key _ e3⟩
        · rw [if_neg h] at e3
          exact ⟨_, rfl, by show 2 ≤ sizeLine; decide, key _ e3⟩
      · refine hq D ys G1 nD z1 eD ?_
        have et : (Pm.turn rs).getD i [] = r.map Pm.tu := by
          unfold Pm.turn
          rw [List.getD_eq_getElem?_getD, List.getElem?_map, hr1]
          rfl
        rw [et]
        have el : (List.range zs.length).map (fun j => pCut (Pm.tu (r.getD j (0, 0)))) = (r.map Pm.tu).map pCut := by
          rw [hzl]
          apply List.ext_getElem?
          intro n
          rw [List.getElem?_map, List.getElem?_map, List.getElem?_map]
          by_cases hn : n < r.length
          · rw [List.getElem?_range hn, List.getElem?_eq_getElem hn]
            simp [List.getD_eq_getElem?_getD, List.getElem?_eq_getElem hn]
          · rw [List.getElem?_eq_none (by rw [List.length_range]; omega), List.getElem?_eq_none (by omega)]
            rfl
        rw [← el]
        exact hD
    · rw [hxl, show rs.length = (Pm.turn rs).length by simp [Pm.turn], range_rds] at hn
      have dD := new_rds hn eD
      have hm1 := hm.same s1
      walk_at "go"
      rename_i u2 H2 s2 p2 H3 s3 u4 H4 s4 p4
      rw [Pm.turn_turn hm.ok] at p4
      have s04 : Same H H4 := ((s1.trans s2).trans s3).trans s4
      have hm4 := hm.same s04
      refine go_eqP G.I p4 hm4 ?_
      rw [decide_eq_true rfl]
      walk_at "go"
      rename_i l5 ys5 H5 n5 s5 e5 w5
      refine go_reprD (new_rds w5 e5) (sh_rds hm.ok) ?_
      have hv5 := (hv.up s04).up s5
      walk_at "go"
      refine go_reprD hv5 (sh_rds hm.ok) ?_
      refine go_eqSS ?_
      exact q _ (s04.trans s5)
end
end T
set_option Elab.async false
set_option maxRecDepth 100000
set_option maxHeartbeats 4000000
namespace T
open PySem L2 Mv
abbrev s_kright : Stmt := top 51
theorem sc_kright : FnScope ["_law_pot_here", "_law_n", "_law_twos", "_law_codes", "_law_row"] ["_law_pot_here"] (defScope s_kright) := ⟨rfl, rfl, rfl, by decide +kernel, rfl, by decide +kernel, by decide +kernel⟩
section
variable {P : Program} {w : World} {K : PySem.W.Frag} {mg : Str → Option Value} {base : Heap} {C AX : Addr}
theorem mk1 {H : Hp} {vs : List V} {brs : List (Bool × List Pm.Cut)} {Q : VK} (ha : DpAll K H vs (pPass brs)) (ok : Pm.RdsOk (brs.map Prod.snd)) (q : ∀ u H', Same H H' → PlanAt K C H' u (brs.map Prod.snd) → Q u H') : MkR1 C (spMk K C) E0 Q vs H := mk_plan ha ok q
def sp_kright (K : PySem.W.Frag) (C : Addr) : Sp := fun vs H Q _ => ∃ (p : Addr), vs = [.ref p] ∧ Pot H p ∧ ∀ H', Pot H' p → Bu p H H' → Q (.bl true) H'
theorem c_kright {K : PySem.W.Frag} {C : Addr} {p : Addr} {H : Hp} {Q : VK} {E : XK} (h0 : Pot H p) (q : ∀ H', Pot H' p → Bu p H H' → Q (.bl true) H') : sp_kright K C [.ref p] H Q E := ⟨_, rfl, h0, q⟩
local macro_rules | `(tactic| tb_rel) => `(tactic| repeat (first
  | with_reducible assumption
  | with_reducible exact Dp.int _
  | with_reducible exact Dp.str _
  | with_reducible exact Dp.bl _
  | with_reducible exact Dp.non
  | (with_reducible apply SqT.of; with_reducible assumption)
  | (with_reducible apply SqL.of; with_reducible assumption)
  | (with_reducible apply up_dp; with_reducible assumption)
  | (with_reducible apply up_sqt; with_reducible assumption)
  | (with_reducible apply up_sql; with_reducible assumption)
  | (with_reducible apply up_get; with_reducible assumption)
  | (with_reducible apply up_pot; with_reducible assumption)
  | with_reducible exact Same.refl _
  | with_reducible exact Bu.refl _ _
  | (with_reducible apply up_same; with_reducible assumption)
  | (with_reducible apply up_bu; with_reducible assumption)
  | (with_reducible apply bu_bu; with_reducible assumption)
  | (with_reducible apply free_of; with_reducible assumption)
  | (with_reducible apply mi_fr; with_reducible assumption; (focus (tb_rel; done)))
  | (with_reducible apply mi_dp; with_reducible assumption)
  | (with_reducible apply mi_sqt; with_reducible assumption)
  | (with_reducible apply mi_sql; with_reducible assumption)
  | (with_reducible apply mi_gett; with_reducible assumption)
  | (with_reducible apply mi_getl; with_reducible assumption)
  | (with_reducible apply mi_pot; with_reducible assumption)
  | (with_reducible apply mi_refl; with_reducible assumption; (focus (with_unfolding_all exact rfl)))
  | (with_reducible apply up_mi; with_reducible assumption)
  | (with_reducible apply mi_mi; with_reducible assumption)
  | (with_reducible apply mi_bu; with_reducible assumption)
  | (with_reducible apply up_plan; with_reducible assumption)
  | (with_reducible apply bu_plan; with_reducible assumption; (focus (tb_rel; done)))
  | (with_reducible apply mi_plan; with_reducible assumption; (focus (lcg_src; done)))
  | (with_reducible apply up_bd; with_reducible assumption)
  | (with_reducible apply bd_bd; with_reducible assumption)
  | (with_reducible apply bd_same; with_reducible assumption; (focus (tb_rel; done)))
  | (with_reducible apply bd_bup; with_reducible assumption; (focus (tb_rel; done)))
  | (with_reducible apply bu_getd; with_reducible assumption; (focus (tb_rel; done)))
  | (with_reducible apply bd_dp; with_reducible assumption)
  | (with_reducible apply bd_sqt; with_reducible assumption)
  | (with_reducible apply bd_sql; with_reducible assumption)
  | (with_reducible apply bd_gett; with_reducible assumption)
  | (with_reducible apply bd_getl; with_reducible assumption)
  | (with_reducible apply bd_geti; with_reducible assumption)
  | (with_reducible apply bd_pot; with_reducible assumption)
  | (with_reducible apply pf_dp; with_reducible assumption; (focus (tb_rel; done)); (focus (lcg_src; done)))
  | (with_reducible apply bu_gett; with_reducible assumption; (focus (tb_rel; done)))
  | (with_reducible apply bu_geti; with_reducible assumption; (focus (tb_rel; done)))
  | (with_reducible apply bu_get; with_reducible assumption; (focus (tlg_ne; done)))
  | (with_reducible apply bu_sqt; with_reducible assumption; (focus (tb_rel; done)))
  | (with_reducible apply bu_sql; with_reducible assumption; (focus (tlg_ne; done)))
  | (with_reducible apply bu_dp; with_reducible assumption; (focus (tb_rel; done)); (focus (lcg_src; done)))
  | fail "up"))
local macro_rules | `(tactic| tlg_ne) => `(tactic| first
  | with_reducible assumption
  | (with_reducible apply pot_ne; with_reducible assumption; (focus (tb_rel; done)))
  | fail "ne")
local macro_rules | `(tactic| lcg_src) => `(tactic| first
  | with_reducible assumption
  | with_unfolding_all exact rfl
  | with_unfolding_all decide
  | with_unfolding_all exact Nat.ne_of_beq_eq_false rfl
  | (apply_assumption; done)
  | omega
  | (simp; done)
  | (simp; omega)
  | fail "sd")
local macro_rules | `(tactic| lcg_sub) => `(tactic| first
  | (unfold sizeLine; omega)
  | (simp only [List.length_cons, List.length_nil, List.length_append, List.length_map, List.length_replicate, List.length_take, List.length_drop]; unfold sizeLine; omega)
  | (simp; unfold sizeLine; omega)
  | fail "sz")
local macro_rules | `(tactic| nest_cls) => `(tactic| first
  | (tb_rel; done)
  | (with_reducible apply nmI; (focus (tb_rel; done)))
  | (with_reducible apply d_tup; (focus (tb_rel; done)); (focus (lsm_bools; done)))
  | (with_reducible apply d_lst; (focus (tb_rel; done)); (focus (lsm_bools; done)))
  | fail "dp")
local macro_rules | `(tactic| lsm_bools) => `(tactic| repeat (first
  | with_reducible exact DpAll.nil
  | with_reducible assumption
  | (with_reducible apply DpAll.cons; (focus (nest_cls; done)))
  | fail "dpa"))
local macro_rules | `(tactic| none_booked) => `(tactic| first | with_unfolding_all exact rfl | (with_reducible apply atI_nat; with_reducible assumption) | fail "ix")
local macro_rules | `(tactic| walk_at "go") => `(tactic| repeat (first
  | (focus (with_reducible refine go_var (v := ?_) ?_ ?_; rotate_left; (focus (with_unfolding_all exact rfl))))
  | with_reducible refine go_seq ?_
  | with_reducible refine go_cN ?_
  | with_reducible refine go_c ?_
  | with_reducible refine go_op ?_
  | with_reducible refine go_nil ?_
  | with_reducible refine go_cons ?_
  | with_reducible refine go_cb ?_
  | with_reducible refine go_call0 ?_
  | with_reducible refine go_asg ?_
  | (focus (with_reducible refine go_gname (σ' := ?_) ?_ ?_; rotate_left; (focus (simp only [List.set_cons_succ, List.set_cons_zero]; exact rfl))))
  | with_reducible refine go_par ?_
  | with_reducible refine go_par3 ?_
  | (focus (with_reducible refine go_par3k (σ' := ?_) ?_ ?_; rotate_left; (focus (simp only [List.set_cons_succ, List.set_cons_zero]; exact rfl))))
  | with_reducible refine go_bm ?_
  | (with_reducible apply go_bmL; (focus (tb_rel; done)))
  | (with_reducible apply go_fdX; (focus (with_reducible assumption; done)))
  | (with_reducible apply go_rI; (focus (with_reducible assumption; done)))
  | (focus (with_reducible refine go_par2 (σ' := ?_) ?_ ?_; rotate_left; (focus (simp only [List.set_cons_succ, List.set_cons_zero]; exact rfl))))
  | with_reducible refine go_ifs ?_
  | with_reducible refine go_test ?_
  | with_reducible refine go_tb ?_
  | with_reducible refine go_asb ?_
  | with_reducible refine go_asi ?_
  | with_reducible refine go_ret ?_
  | with_reducible refine go_retn ?_
  | with_reducible refine go_drop ?_
  | with_reducible refine go_next ?_
  | with_reducible refine go_and ?_
  | with_reducible refine go_or ?_
  | with_reducible refine go_not ?_
  | with_reducible refine go_andv ?_
  | with_reducible refine go_orv ?_
  | with_reducible refine go_notv ?_
  | with_reducible refine go_ife ?_
  | with_reducible refine go_chain ?_
  | with_reducible refine go_if1 ?_
  | with_reducible refine go_if0 ?_
  | with_reducible refine go_ifn1 ?_
  | with_reducible refine go_ifn0 ?_
  | (with_reducible apply go_ift; (focus (first | with_reducible rfl | with_reducible assumption | omega)))
  | (with_reducible apply go_ifnt; (focus (first | with_reducible rfl | with_reducible assumption | omega)))
  | (with_reducible apply go_iff; (focus (first | with_reducible assumption | omega)))
  | (with_reducible apply go_ifnf; (focus (first | with_reducible assumption | omega)))
  | with_reducible refine go_un ?_
  | with_reducible refine go_tup ?_
  | with_reducible refine go_lst ?_
  | (with_reducible apply go_newt; (focus (lcg_sub; done)); intros)
  | (with_reducible apply go_newl; (focus (lcg_sub; done)); intros)
  | with_reducible refine go_meth ?_
  | with_reducible refine go_for ?_
  | with_reducible refine go_lc ?_
  | with_reducible refine go_irng1 ?_
  | with_reducible refine go_irng2 ?_
  | with_reducible refine go_ilist ?_
  | with_reducible refine go_itup ?_
  | with_reducible refine go_izip ?_
  | with_reducible refine go_ienum ?_
  | (with_reducible apply go_rg1; (focus (lcg_src; done)))
  | (with_reducible apply go_rg2; (focus (lcg_src; done)); (focus (lcg_src; done)))
  | (with_reducible apply go_lsr; (focus (tb_rel; done)))
  | (with_reducible apply go_tpr; (focus (tb_rel; done)))
  | (with_reducible apply go_zpr; (focus (tb_rel; done)); (focus (tb_rel; done)))
  | (with_reducible apply go_zprT; (focus (tb_rel; done)); (focus (tb_rel; done)))
  | (with_reducible apply go_enrL; (focus (tb_rel; done)))
  | (with_reducible apply go_enrT; (focus (tb_rel; done)))
  | with_reducible refine go_prop ?_
  | with_reducible refine go_knr0 ?_
  | (with_reducible apply go_knr; (focus (with_unfolding_all exact rfl; done)); (focus (simp only [kSw2, kRev3, kId, List.nil_append, List.cons_append]; exact rfl)))
  | with_reducible refine go_mkn ?_
  | (with_reducible apply go_mkr; (focus (tb_rel; done)); (focus (with_unfolding_all exact rfl; done)))
  | with_reducible refine go_fld ?_
  | (with_reducible apply go_flr; (focus (tb_rel; done)); (focus (with_reducible assumption; done)); (focus (with_reducible assumption; done)); (focus (with_unfolding_all exact rfl; done)))
  | (with_reducible apply go_prr; (focus (tb_rel; done)))
  | (with_reducible apply go_mer; (focus (tb_rel; done)); (focus (with_unfolding_all exact rfl; done)))
  | with_reducible refine go_sfld ?_
  | (with_reducible apply go_sfr; (focus (tb_rel; done)); (focus (with_reducible assumption; done)); (focus (with_reducible assumption; done)); (focus (with_unfolding_all exact Nat.le_of_ble_eq_true rfl; done)); (focus (with_unfolding_all exact rfl; done)); intros)
  | with_reducible refine go_revt ?_
  | with_reducible refine go_make0 ?_
  | (focus (with_reducible refine go_aug (x := ?_) ?_ ?_; rotate_left; (focus (with_unfolding_all exact rfl))))
  | (focus (with_reducible refine go_augk (σ' := ?_) ?_ ?_; rotate_left; (focus (simp only [List.set_cons_succ, List.set_cons_zero]; exact rfl))))
  | with_reducible refine go_min2 ?_
  | with_reducible refine go_int1 ?_
  | with_reducible refine go_max2 ?_
  | with_reducible refine go_intB ?_
  | with_reducible refine go_absN ?_
  | with_reducible refine go_isN ?_
  | with_reducible refine go_notN ?_
  | (with_reducible apply go_rvt; (focus (tb_rel; done)); (focus (simp only [List.reverse_cons, List.reverse_nil, List.nil_append, List.cons_append]; exact rfl)); intros)
  | (with_reducible apply go_reprNm; (focus (tb_rel; done)); (focus (with_reducible assumption; done)))
  | (with_reducible apply go_reprPr; (focus (nest_cls; done)); (focus (lcg_src; done)); (focus (lcg_src; done)))
  | with_reducible refine go_sl ?_
  | with_reducible refine go_part ?_
  | with_reducible refine go_nopart ?_
  | (with_reducible apply go_gtup; (focus (tb_rel; done)); (focus (with_unfolding_all exact rfl; done)))
  | (with_reducible apply go_gunl; (focus (tb_rel; done)); (focus (with_unfolding_all exact rfl; done)))
  | with_reducible refine go_gcons ?_
  | with_reducible refine go_gnil ?_
  | with_reducible refine go_addN ?_
  | with_reducible refine go_ltN ?_
  | with_reducible refine go_leN ?_
  | with_reducible refine go_gtN ?_
  | with_reducible refine go_geN ?_
  | (with_reducible apply go_subN; (focus (omega; done)))
  | with_reducible refine go_rI0 ?_
  | (with_reducible apply go_mulN; (focus (omega; done)))
  | (with_reducible apply go_modN; (focus (omega; done)))
  | (with_reducible apply go_divN; (focus (omega; done)))
  | (with_reducible apply go_powN; (focus (with_unfolding_all decide; done)))
  | with_reducible refine go_rU ?_
  | with_reducible refine go_eqN ?_
  | with_reducible refine go_neN ?_
  | with_reducible refine go_isB ?_
  | with_reducible refine go_notB ?_
  | with_reducible refine go_eqS ?_
  | with_reducible refine go_neS ?_
  | with_reducible refine go_eqB ?_
  | with_reducible refine go_eqI ?_
  | with_reducible refine go_neI ?_
  | (with_reducible apply go_ixt; (focus (tb_rel; done)); (focus (none_booked; done)))
  | (with_reducible apply go_ixl; (focus (tb_rel; done)); (focus (none_booked; done)))
  | (with_reducible apply go_lent; (focus (tb_rel; done)))
  | (with_reducible apply go_lenNm; (focus (tb_rel; done)))
  | (with_reducible apply go_isiNm; (focus (tb_rel; done)))
  | (with_reducible apply go_lenl; (focus (tb_rel; done)))
  | (with_reducible apply go_catA; (focus (tb_rel; done)); (focus (tb_rel; done)); (focus (lcg_sub; done)); intros)
  | (with_reducible apply go_slaT; (focus (tb_rel; done)); intros)
  | (with_reducible apply go_slaD; (focus (tb_rel; done)); intros)
  | (with_reducible apply go_rep; (focus (tb_rel; done)); (focus (lcg_src; done)); intros)
  | (with_reducible apply go_tupofl; (focus (tb_rel; done)); intros)
  | (with_reducible apply go_sllT; (focus (tb_rel; done)); intros)
  | (with_reducible apply go_sllD; (focus (tb_rel; done)); intros)
  | (with_reducible apply go_cat; (focus (tb_rel; done)); (focus (tb_rel; done)); (focus (lcg_sub; done)); intros)
  | (with_reducible apply go_eqP; with_reducible assumption; (focus (tb_rel; done)); (focus (tb_rel; done)))
  | (with_reducible apply go_neP; with_reducible assumption; (focus (tb_rel; done)); (focus (tb_rel; done)))
  | (with_reducible apply go_mep; (focus (tb_rel; done)); (focus decide); (focus decide); (focus decide))
  | (with_reducible apply c_drawN; (focus (tb_rel; done)); (focus (lcg_src; done)); (focus (lcg_src; done)); intros)
  | (with_reducible apply c_kright; (focus (tb_rel; done)); intros)
  | (with_reducible apply c_pcodes; (focus (lcg_src; done)); intros)
  | (with_reducible apply c_peq; (focus (tb_rel; done)); (focus (tb_rel; done)); intros)
  | (with_reducible apply c_psquares; (focus (lcg_src; done)); (focus (lcg_src; done)); intros)
  | (with_reducible apply c_tright; (focus (tb_rel; done)); (focus (nest_cls; done)); intros)
  | with_reducible refine go_dget ?_
  | with_reducible refine go_dgr2 ?_
  | with_reducible refine go_dput ?_
  | with_reducible refine go_dpr2 ?_
  | with_reducible refine go_dpt ?_
  | with_reducible refine go_pnil ?_
  | with_reducible refine go_pcons ?_
  | with_reducible refine go_gsub ?_
  | with_reducible refine go_sir ?_
  | with_reducible refine go_lrg ?_
  | with_reducible refine go_rgt2 ?_
  | with_reducible refine go_rge ?_
  | with_reducible refine go_revl ?_
  | (with_reducible apply go_dgk; (focus (tb_rel; done)); with_reducible assumption)
  | (with_reducible apply go_dpk; (focus (tb_rel; done)); (focus (lcg_sub; done)); intros)
  | (with_reducible apply go_disp; intros)
  | (with_reducible apply go_dsk2; (focus (tb_rel; done)); intros)
  | (with_reducible apply go_lrr; (focus (omega; done)); (focus (omega; done)); intros)
  | (with_reducible apply go_rvl; (focus (tb_rel; done)); intros)
  | (with_reducible apply go_knr; (focus (with_unfolding_all exact rfl; done)); (focus (simp only [kSwM]; exact rfl)))
  | (with_reducible apply go_mkp; (focus (tb_rel; done)); (focus decide); (focus decide); (focus decide))
  | with_reducible refine go_cv ?_
  | with_reducible refine go_cvr ?_
  | with_reducible refine go_mkr1 ?_
  | with_reducible refine go_cma ?_
  | with_reducible refine go_cmk ?_
  | with_reducible refine go_cmr ?_
  | with_reducible refine go_ckr ?_
  | (with_reducible apply go_mkL; (focus (with_unfolding_all exact rfl)))
  | (with_reducible apply go_cmv; (focus (with_unfolding_all exact rfl)); (focus (simp only [gApp, kId, List.nil_append, List.cons_append, List.append_nil]; exact rfl)))
  | (with_reducible apply go_ckv; (focus (with_unfolding_all exact rfl)); (focus (simp only [gApp, kId, List.nil_append, List.cons_append, List.append_nil]; exact rfl)))
  | fail "go"))
theorem ok_kright {f : Addr} {fd : FuncData} (F : Df K "_law_known_right" "_law_known_right" s_kright [] f fd) (B : Blt mg) (G : PlG K mg C AX) (cDr : Ca P w K mg base 1 "_law_draw" sp_draw []) (cTr : Cg P w K mg base 9 "_law_told_right" ["_law_made", "_law_rows"] (sp_tright K C) []) (cSq : CmK P w K mg base 8 C "squares" (sp_psquares K C) 2 [] kId) (cSqK : CmK P w K mg base 8 C "squares" (sp_psquares K C) 1 ["parts"] kId) (cCod : CmK P w K mg base 8 C "codes" (sp_pcodes K C) 1 [] kId) (cPl : MaR P w K mg base 6 "Plan" C (spMk K C)) (cEqP : Op2 P w K mg base 1 C "__eq__" (sp_peq K C)) : FnG P w K mg base 10 f fd ["_law_pot_here"] (sp_kright K C) := by
  refine dfG F sc_kright (fun vs H Q E h => ?_) (fun cdv A outer s H vs Q E hr ga h => ?_)
  · obtain ⟨p, rfl, _⟩ := h
    rfl
  · obtain ⟨p, rfl, hp, q⟩ := h
    refine ⟨_, (pss_cons (ps_set (i := 1) sc_kright.nd rfl (Or.inl rfl) (pe_op op_add pe_int (pe_ca cDr hr (by decide) (by rfl) (pa_cons (pv 0) (pa_cons pe_int pa_nil)))))
  (pss_cons (ps_set (i := 2) sc_kright.nd rfl (Or.inl rfl) (pe_lst (pa_cons (pe_tup (pa_cons pe_str (pa_cons pe_int pa_nil))) (pa_cons (pe_tup (pa_cons pe_str (pa_cons pe_int pa_nil))) (pa_cons (pe_tup (pa_cons pe_str (pa_cons pe_int pa_nil))) (pa_cons (pe_tup (pa_cons pe_str (pa_cons pe_int pa_nil))) (pa_cons (pe_tup (pa_cons pe_str (pa_cons pe_int pa_nil))) pa_nil)))))))
  (pss_cons (ps_set (i := 3) sc_kright.nd rfl (Or.inl rfl) (pe_lst (pa_cons (pv 2) (pa_cons (pe_lst (pa_cons (pe_tup (pa_cons pe_str (pa_cons pe_int pa_nil))) (pa_cons (pe_tup (pa_cons pe_str (pa_cons pe_int pa_nil))) (pa_cons (pe_tup (pa_cons pe_str (pa_cons pe_int pa_nil))) (pa_cons (pe_tup (pa_cons pe_str (pa_cons pe_int pa_nil))) (pa_cons (pe_tup (pa_cons pe_str (pa_cons pe_int pa_nil))) pa_nil)))))) pa_nil))))
  (pss_cons (ps_if (PW.pt (pw_or (pt_not (pt_val (pe_g cTr hr ga (by decide) (by rfl) (pa_cons (pe_cmA cSq hr (by decide) (pe_glob (by rfl) G.mgC (v := .ref C) rfl) (pa_cons (pv 1) pa_nil)) (pa_cons (pe_lst (pa_cons (pe_lst (pa_cons (pe_tup (pa_cons pe_str (pa_cons (pv 1) pa_nil))) (pa_cons (pe_tup (pa_cons pe_str (pa_cons (pv 1) pa_nil))) pa_nil))) pa_nil)) pa_nil))))) (pw_or1 (pt_cmpR (op_neO' cEqP hr (by decide) G.I.ne G.I.hm) (pe_cmKw cSqK hr (by decide) (pe_glob (by rfl) G.mgC (v := .ref C) rfl) (pk_cons (pv 1) pk_nil)) (pe_cmA cSq hr (by decide) (pe_glob (by rfl) G.mgC (v := .ref C) rfl) (pa_cons (pv 1) pa_nil)) (nomark _)))))
  (pss_one (ps_ret pe_bl))
  pss_nil)
  (pss_cons (ps_set (i := 4) sc_kright.nd rfl (Or.inl rfl) (pe_lst (pa_cons (pe_tup (pa_cons pe_str (pa_cons (pv 1) pa_nil))) (pa_cons (pe_tup (pa_cons pe_str (pa_cons (pv 1) pa_nil))) pa_nil))))
  (pss_cons (ps_if (PW.pt (pw_or (pt_not (pt_val (pe_g cTr hr ga (by decide) (by rfl) (pa_cons (pe_cmA0 cCod hr (by decide) (pe_glob (by rfl) G.mgC (v := .ref C) rfl)) (pa_cons (pv 3) pa_nil))))) (pw_or1 (pt_not (pt_val (pe_g cTr hr ga (by decide) (by rfl) (pa_cons (pe_mar cPl hr (by decide) (by rfl) (pa_cons (pv 4) (pa_cons (pv 4) pa_nil))) (pa_cons (pe_lst (pa_cons (pe_callTy call_list_of' (by rfl) B.list bt_list (pa_cons (pv 4) pa_nil)) (pa_cons (pe_callTy call_list_of' (by rfl) B.list bt_list (pa_cons (pv 4) pa_nil)) pa_nil))) pa_nil))))))))
  (pss_one (ps_ret pe_bl))
  pss_nil)
  (pss_one (ps_ret (pe_cmpR op_eq (pe_callB (call_reprD' ga hr) (by rfl) B.repr bt_repr (pa_cons (pe_lst (pa_cons (pe_ccon G.mr (by rfl) G.mgC) (pa_cons (pe_ccon G.mc (by rfl) G.mgC) (pa_cons (pe_ccon G.ms (by rfl) G.mgC) pa_nil)))) pa_nil)) (pe_callB (call_reprD' ga hr) (by rfl) B.repr bt_repr (pa_cons (pe_lst (pa_cons pe_int (pa_cons pe_int (pa_cons pe_int pa_nil)))) pa_nil)) (nomark _)))))))))), ?_⟩
    refine go_start (σ := [some _, none, none, none, none]) rfl ?_
    walk_at "go"
    rename_i d J1 ld p1 b1 a1 H1 n1 s1 e1 a2 H2 n2 s2 e2 a3 H3 n3 s3 e3 a4 H4 n4 s4 e4 a5 H5 n5 s5 e5 l1 H6 n6 s6 e6 c1 I1 m1 z1 f1 c2 I2 m2 z2 f2 c3 I3 m3 z3 f3 c4 I4 m4 z4 f4 c5 I5 m5 z5 f5 l2 I6 m6 z6 f6 l3 I7 m7 z7 f7 u U su pu t1 K1 k1 y1 g1 t2 K2 k2 y2 g2 t3 K3 k3 y3 g3 t4 K4 k4 y4 g4
    have dC : Dp K I7 (.ref l3) (pRds codesR) := by
      refine .lst (SqL.of f7) (.cons (.lst (SqL.of (by tb_rel)) ?_) (.cons (.lst (SqL.of (by tb_rel)) ?_) .nil))
      · exact .cons (tE (by tb_rel)) (.cons (tN (by tb_rel)) (.cons (tE (by tb_rel)) (.cons (tN (by tb_rel)) (.cons (tE (by tb_rel)) .nil))))
      · exact .cons (tN (by tb_rel)) (.cons (tE (by tb_rel)) (.cons (tN (by tb_rel)) (.cons (tE (by tb_rel)) (.cons (tN (by tb_rel)) .nil))))
    have S7 : Same J1 I7 := by tb_rel
    have p7 : Pot I7 p := by tb_rel
    have b7 : Bu p H I7 := by tb_rel
    clear s1 e1 s2 e2 s3 e3 s4 e4 s5 e5 s6 e6 z1 f1 z2 f2 z3 f3 z4 f4 z5 f5 z6 f6 z7 f7 n1 n2 n3 n4 n5 n6 m1 m2 m3 m4 m5 m6 m7 p1 b1 S7
    have dS : Dp K K4 (.ref t4) (pRds [[(0, 2 + d), (1, 2 + d)]]) := .lst (SqL.of g4) (.cons (.lst (SqL.of (by tb_rel)) (.cons (tE (by tb_rel)) (.cons (tN (by tb_rel)) .nil))) .nil)
    refine ⟨u, _, _, rfl, by tb_rel, dS, fun Z1 S1 => ?_⟩
    walk_at "go"
    rename_i u1 Z2 S2 pu1 u2 Z3 S3 pu2
    refine go_neP G.I (pu1.same S3) pu2 ?_
    rw [decide_eq_true rfl]
    walk_at "go"
    rename_i q1 L1 m1 y1 f1 q2 L2 m2 y2 f2 q3 L3 m3 y3 f3 u3 L4 y4 pu3 L5 y5
    have dR : Dp K L5 (.ref q3) (pRnd [(0, 2 + d), (1, 2 + d)]) := .lst (SqL.of (by tb_rel)) (.cons (tE (by tb_rel)) (.cons (tN (by tb_rel)) .nil))
    have ok2 : ∀ d, d < 3 → Pm.RdsOk [[(0, 2 + d), (1, 2 + d)], [(0, 2 + d), (1, 2 + d)]] := by decide
    refine mk1 (brs := [(true, [(0, 2 + d), (1, 2 + d)]), (true, [(0, 2 + d), (1, 2 + d)])]) (.cons dR (.cons dR .nil)) (ok2 d ld) fun u4 L6 y6 pa4 => ?_
    walk_at "go"
    have pa4 : PlanAt K C L6 u4 [[(0, 2 + d), (1, 2 + d)], [(0, 2 + d), (1, 2 + d)]] := pa4
    refine go_lstof (.inl (by tb_rel)) fun o1 M1 n1 s1 e1 => ?_
    walk_at "go"
    refine go_lstof (.inl (by tb_rel)) fun o2 M2 n2 s2 e2 => ?_
    walk_at "go"
    rename_i o3 M3 n3 s3 e3
    have dd : ∀ {q : Addr} {t1 t2 : Addr} {Hx : Hp}, Hx q = some (.lst [.ref t1, .ref t2]) → Hx t1 = some (.tup [.str "east", .int ((2 + d : Nat) : Int)]) → Hx t2 = some (.tup [.str "north", .int ((2 + d : Nat) : Int)]) → Dp K Hx (.ref q) (pRnd [(0, 2 + d), (1, 2 + d)]) := fun a b c => .lst (SqL.of a) (.cons (tE b) (.cons (tN c) .nil))
    have dT : Dp K M3 (.ref o3) (pRds [[(0, 2 + d), (1, 2 + d)], [(0, 2 + d), (1, 2 + d)]]) := .lst (SqL.of e3) (.cons (dd (by tb_rel) (by tb_rel) (by tb_rel)) (.cons (dd (by tb_rel) (by tb_rel) (by tb_rel)) .nil))
    refine ⟨u4, _, _, rfl, by tb_rel, dT, fun M4 s4 => ?_⟩
    walk_at "go"
    rename_i w1 N1 n4 s5 e4
    have dI : ∀ {Hx : Hp} {a : Addr}, Hx a = some (.lst [.int ((3 : Nat) : Int), .int ((5 : Nat) : Int), .int ((32 : Nat) : Int)]) → Dp K Hx (.ref a) (.list [.int 3, .int 5, .int 32]) := fun h => .lst (SqL.of h) (.cons (.int _) (.cons (.int _) (.cons (.int _) .nil)))
    refine go_reprD (dI e4) (by decide +kernel) ?_
    walk_at "go"
    rename_i w2 N2 n5 s6 e5
    refine go_reprD (dI e5) (by decide +kernel) ?_
    refine go_eqSS ?_
    exact q _ (by tb_rel) (by tb_rel)
end
end T
set_option Elab.async false
set_option maxRecDepth 100000
set_option maxHeartbeats 4000000
/-! Comprehensions of new lists, with draws. -/
namespace Mv
open PySem PySem.Spec PyProof.Rows L2
section
variable {K : PySem.W.Frag} {σ : L2.St} {H H' : Hp} {Q : VK} {vs : List Nat} {te : TE} {g : TG} {a p D : Addr}
theorem lcNewsB {J : It} {k : Nat} {G : Hp → Prop} {Y : Nat → Hp → V → Hp → Prop} (w : Walk J k G Y) (Pd : Nat → List PyData → Prop) (hp : Pot H p) (hz : k ≤ 100000) (hG : ∀ H', Bu p H H' → G H')
    (hs : ∀ (i : Nat) (x : V) (H1 H2 : Hp) (Q' : VK), i < k → Pot H1 p → Bu p H H1 → Y i H1 x H2 → (∀ q zs e H4, H1 q = none → Bu p H1 H4 → Pot H4 p → H4 q = some (.lst zs) → NLs e = true → Pd i e → DpAll K H4 zs e → Q' (.ref q) H4) → g x (wipe σ vs) H2 fun σ2 H3 => wipe σ2 vs = wipe σ vs ∧ te σ2 H3 Q')
    (hd : ∀ D H' ys es, H D = none → Bu p H H' → Pot H' p → H' D = some (.lst ys) → NewLs K H H' D ys es → es.length = k → (∀ (i : Nat) e, es[i]? = some e → Pd i e) → Q (.ref D) H') (hg : ∀ x σ' H' (P Q : L2.St → Hp → Prop), (∀ σ2 H2, P σ2 H2 → Q σ2 H2) → g x σ' H' P → g x σ' H' Q) : LcR g tYes te vs σ Q J H := by
  intro D hD
  have hne : D ≠ p := hp.ne hD
  refine lc_it w (fun i H' => Bu p H H' ∧ Pot H' p ∧ ∃ (qs : List Addr) (es : List (List PyData)), H' D = some (.lst (qs.map V.ref)) ∧ qs.length = i ∧ es.length = i ∧ qs.Nodup ∧ D ∉ qs ∧ ∀ (j : Nat) q e, qs[j]? = some q → es[j]? = some e → H q = none ∧ NLs e = true ∧ Pd j e ∧ ∃ zs, H' q = some (.lst zs) ∧ DpAll K H' zs e) ⟨Bu.new hD, hp.upd hne, [], [], upd_same, rfl, rfl, List.nodup_nil, List.not_mem_nil, fun j q e h => by simp at h⟩ (fun i H' _ h => hG H' h.1) ?_ ?_
  · rintro i x H1 H2 hi ⟨b1, p1, qs, es, ed, hlen, hle, nd, nD, ha⟩ hy
    refine hg x _ H2 _ _ (fun σ2 H2 h => ⟨h.1, h.2⟩) (hs i x H1 H2 (fun y H4 => ∃ acc, H4 D = some (.lst acc) ∧ acc.length < sizeLine ∧ Bu p H (upd H4 D (.lst (acc ++ [y]))) ∧ Pot (upd H4 D (.lst (acc ++ [y]))) p ∧ ∃ (qs : List Addr) (es : List (List PyData)), upd H4 D (.lst (acc ++ [y])) D = some (.lst (qs.map V.ref)) ∧ qs.length = i + 1 ∧ es.length = i + 1 ∧ qs.Nodup ∧ D ∉ qs ∧ ∀ (j : Nat) q e, qs[j]? = some q → es[j]? = some e → H q = none ∧ NLs e = true ∧ Pd j e ∧ ∃ zs, upd H4 D (.lst (acc ++ [y])) q = some (.lst zs) ∧ DpAll K (upd H4 D (.lst (acc ++ [y]))) zs e) hi p1 b1 hy fun q zs e H4 nq b4 p4 eq ne pe hq => ?_)
    have e4 := b4 _ _ hne ed
    obtain ⟨ws, ew⟩ := p1.lst
    have hqD : q ≠ D := fun z => by rw [z, ed] at nq; cases nq
    have hqp : q ≠ p := fun z => by rw [z, ew] at nq; cases nq
    have hqs : q ∉ qs := fun z => by
      obtain ⟨j, hj⟩ := List.getElem?_of_mem z
      obtain ⟨_, _, _, zs', e', _⟩ := ha j q (es[j]'(by have := (List.getElem?_eq_some_iff.mp hj).1; omega)) hj (List.getElem?_eq_getElem _)
      rw [e'] at nq
      cases nq
    have hH : H q = none := by
      cases h : H q with
      | none => rfl
      | some o =>
        rw [b1 _ _ hqp h] at nq
        cases nq
    refine ⟨qs.map V.ref, e4, ?_, ?_, p4.upd hne, qs ++ [q], es ++ [e], by rw [upd_same, List.map_append]; rfl, by simp [hlen], by simp [hle], ?_, ?_, fun j q' e' hj he => ?_⟩
    · rw [List.length_map, hlen]; unfold sizeLine; omega
    · intro b o nb eb
      rw [upd_ne (ne_of_none eb hD)]
      exact (b1.trans b4) b o nb eb
    · rw [List.nodup_append]
      exact ⟨nd, by simp, fun x hx y hy => by
        obtain rfl : y = q := by simpa using hy
        exact fun z => hqs (z ▸ hx)⟩
    · rw [List.mem_append]
      rintro (h | h)
      · exact nD h
      · have : D = q := by simpa using h
        exact hqD this.symm
    · have bs : Bu D H4 (upd H4 D (.lst (qs.map V.ref ++ [V.ref q]))) := Bu.set
      rcases Nat.lt_trichotomy j qs.length with c | c | c
      · rw [List.getElem?_append_left c] at hj
        rw [List.getElem?_append_left (by omega)] at he
        obtain ⟨n', l', d', zs', x', y'⟩ := ha j q' e' hj he
        have hq'p : q' ≠ p := fun z => by
          have := hp.lst
          rw [z] at n'
          obtain ⟨_, h⟩ := this
          rw [h] at n'
          cases n'
        exact ⟨n', l', d', zs', bs _ _ (fun z => nD (z ▸ List.mem_of_getElem? hj)) (b4 _ _ hq'p x'), (y'.bu l' b4 ew).bu l' bs e4⟩
      · subst c
        rw [List.getElem?_append_right (Nat.le_refl _), Nat.sub_self] at hj
        rw [List.getElem?_append_right (by omega), show qs.length - es.length = 0 by omega] at he
        obtain rfl := Option.some.inj hj
        obtain rfl := Option.some.inj he
        refine ⟨hH, ne, ?_, zs, bs _ _ hqD eq, hq.bu ne bs e4⟩
        rw [hlen]
        exact pe
      · rw [List.getElem?_eq_none (by simp; omega)] at hj
        cases hj
  · rintro H1 ⟨b1, p1, qs, es, ed, hlen, hle, nd, nD, ha⟩
    refine hd D H1 _ es hD b1 p1 ed ⟨qs, rfl, nd, nD, by omega, fun i q e h1 h2 => ?_⟩ hle fun i e he => ?_
    · obtain ⟨n', l', d', zs', x', y'⟩ := ha i q e h1 h2
      exact ⟨n', l', zs', x', y'⟩
    · have hi : i < qs.length := by
        have := (List.getElem?_eq_some_iff.mp he).1
        omega
      exact (ha i _ e (List.getElem?_eq_getElem hi) he).2.2.1
/-- a list or a tuple -/
def sqO : Bool → List V → HO
  | true, zs => .lst zs
  | false, zs => .tup zs
/-- new lists and tuples since H, none of them twice, none at D; of data without lists -/
structure MixLs (K : PySem.W.Frag) (H H' : Hp) (D : Addr) (ys : List V) (es : List (Bool × List PyData)) : Prop where
  ex : ∃ qs : List Addr, ys = qs.map V.ref ∧ qs.Nodup ∧ D ∉ qs ∧ qs.length = es.length ∧ ∀ (i : Nat) q e, qs[i]? = some q → es[i]? = some e → H q = none ∧ NLs e.2 = true ∧ ∃ zs, H' q = some (sqO e.1 zs) ∧ DpAll K H' zs e.2
theorem lcMixB {J : It} {k : Nat} {G : Hp → Prop} {Y : Nat → Hp → V → Hp → Prop} (w : Walk J k G Y) (Pd : Nat → Bool × List PyData → Prop) (hp : Pot H p) (hz : k ≤ 100000) (hG : ∀ H', Bu p H H' → G H')
    (hs : ∀ (i : Nat) (x : V) (H1 H2 : Hp) (Q' : VK), i < k → Pot H1 p → Bu p H H1 → Y i H1 x H2 → (∀ q zs e H4, H1 q = none → Bu p H1 H4 → Pot H4 p → H4 q = some (sqO e.1 zs) → NLs e.2 = true → Pd i e → DpAll K H4 zs e.2 → Q' (.ref q) H4) → g x (wipe σ vs) H2 fun σ2 H3 => wipe σ2 vs = wipe σ vs ∧ te σ2 H3 Q')
    (hd : ∀ D H' ys es, H D = none → Bu p H H' → Pot H' p → H' D = some (.lst ys) → MixLs K H H' D ys es → es.length = k → (∀ (i : Nat) e, es[i]? = some e → Pd i e) → Q (.ref D) H') (hg : ∀ x σ' H' (P Q : L2.St → Hp → Prop), (∀ σ2 H2, P σ2 H2 → Q σ2 H2) → g x σ' H' P → g x σ' H' Q) : LcR g tYes te vs σ Q J H := by
  intro D hD
  have hne : D ≠ p := hp.ne hD
  refine lc_it w (fun i H' => Bu p H H' ∧ Pot H' p ∧ ∃ (qs : List Addr) (es : List (Bool × List PyData)), H' D = some (.lst (qs.map V.ref)) ∧ qs.length = i ∧ es.length = i ∧ qs.Nodup ∧ D ∉ qs ∧ ∀ (j : Nat) q e, qs[j]? = some q → es[j]? = some e → H q = none ∧ NLs e.2 = true ∧ Pd j e ∧ ∃ zs, H' q = some (sqO e.1 zs) ∧ DpAll K H' zs e.2) ⟨Bu.new hD, hp.upd hne, [], [], upd_same, rfl, rfl, List.nodup_nil, List.not_mem_nil, fun j q e h => by simp at h⟩ (fun i H' _ h => hG H' h.1) ?_ ?_
  · rintro i x H1 H2 hi ⟨b1, p1, qs, es, ed, hlen, hle, nd, nD, ha⟩ hy
    refine hg x _ H2 _ _ (fun σ2 H2 h => ⟨h.1, h.2⟩) (hs i x H1 H2 (fun y H4 => ∃ acc, H4 D = some (.lst acc) ∧ acc.length < sizeLine ∧ Bu p H (upd H4 D (.lst (acc ++ [y]))) ∧ Pot (upd H4 D (.lst (acc ++ [y]))) p ∧ ∃ (qs : List Addr) (es : List (Bool × List PyData)), upd H4 D (.lst (acc ++ [y])) D = some (.lst (qs.map V.ref)) ∧ qs.length = i + 1 ∧ es.length = i + 1 ∧ qs.Nodup ∧ D ∉ qs ∧ ∀ (j : Nat) q e, qs[j]? = some q → es[j]? = some e → H q = none ∧ NLs e.2 = true ∧ Pd j e ∧ ∃ zs, upd H4 D (.lst (acc ++ [y])) q = some (sqO e.1 zs) ∧ DpAll K (upd H4 D (.lst (acc ++ [y]))) zs e.2) hi p1 b1 hy fun q zs e H4 nq b4 p4 eq ne pe hq => ?_)
    have e4 := b4 _ _ hne ed
    obtain ⟨ws, ew⟩ := p1.lst
    have hqD : q ≠ D := fun z => by rw [z, ed] at nq; cases nq
    have hqp : q ≠ p := fun z => by rw [z, ew] at nq; cases nq
    have hqs : q ∉ qs := fun z => by
      obtain ⟨j, hj⟩ := List.getElem?_of_mem z
      obtain ⟨_, _, _, zs', e', _⟩ := ha j q (es[j]'(by have := (List.getElem?_eq_some_iff.mp hj).1; omega)) hj (List.getElem?_eq_getElem _)
      rw [e'] at nq
      cases nq
    have hH : H q = none := by
      cases h : H q with
      | none => rfl
      | some o =>
        rw [b1 _ _ hqp h] at nq
        cases nq
    refine ⟨qs.map V.ref, e4, ?_, ?_, p4.upd hne, qs ++ [q], es ++ [e], by rw [upd_same, List.map_append]; rfl, by simp [hlen], by simp [hle], ?_, ?_, fun j q' e' hj he => ?_⟩
    · rw [List.length_map, hlen]; unfold sizeLine; omega
    · intro b o nb eb
      rw [upd_ne (ne_of_none eb hD)]
      exact (b1.trans b4) b o nb eb
    · rw [List.nodup_append]
      exact ⟨nd, by simp, fun x hx y hy => by
        obtain rfl : y = q := by simpa using hy
        exact fun z => hqs (z ▸ hx)⟩
    · rw [List.mem_append]
      rintro (h | h)
      · exact nD h
      · have : D = q := by simpa using h
        exact hqD this.symm
    · have bs : Bu D H4 (upd H4 D (.lst (qs.map V.ref ++ [V.ref q]))) := Bu.set
      rcases Nat.lt_trichotomy j qs.length with c | c | c
      · rw [List.getElem?_append_left c] at hj
        rw [List.getElem?_append_left (by omega)] at he
        obtain ⟨n', l', d', zs', x', y'⟩ := ha j q' e' hj he
        have hq'p : q' ≠ p := fun z => by
          have := hp.lst
          rw [z] at n'
          obtain ⟨_, h⟩ := this
          rw [h] at n'
          cases n'
        exact ⟨n', l', d', zs', bs _ _ (fun z => nD (z ▸ List.mem_of_getElem? hj)) (b4 _ _ hq'p x'), (y'.bu l' b4 ew).bu l' bs e4⟩
      · subst c
        rw [List.getElem?_append_right (Nat.le_refl _), Nat.sub_self] at hj
        rw [List.getElem?_append_right (by omega), show qs.length - es.length = 0 by omega] at he
        obtain rfl := Option.some.inj hj
        obtain rfl := Option.some.inj he
        refine ⟨hH, ne, ?_, zs, bs _ _ hqD eq, hq.bu ne bs e4⟩
        rw [hlen]
        exact pe
      · rw [List.getElem?_eq_none (by simp; omega)] at hj
        cases hj
  · rintro H1 ⟨b1, p1, qs, es, ed, hlen, hle, nd, nD, ha⟩
    refine hd D H1 _ es hD b1 p1 ed ⟨qs, rfl, nd, nD, by omega, fun i q e h1 h2 => ?_⟩ hle fun i e he => ?_
    · obtain ⟨n', l', d', zs', x', y'⟩ := ha i q e h1 h2
      exact ⟨n', l', zs', x', y'⟩
    · have hi : i < qs.length := by
        have := (List.getElem?_eq_some_iff.mp he).1
        omega
      exact (ha i _ e (List.getElem?_eq_getElem hi) he).2.2.1
/-- .. as data -/
theorem NewLs.all (h : NewLs K H H' D ys es) : DpAll K H' ys (es.map PyData.list) := h.dp
end
end Mv
set_option Elab.async false
set_option maxRecDepth 100000
set_option maxHeartbeats 4000000
namespace T
open PySem L2 Mv
abbrev s_lothers : Stmt := top 48
theorem sc_lothers : FnScope ["_law_pot_here", "_law_rows", "_law_mode", "_law_found", "_law_row", "_law_cut"] ["_law_pot_here", "_law_rows"] (defScope s_lothers) := ⟨rfl, rfl, rfl, by decide +kernel, rfl, by decide +kernel, by decide +kernel⟩
section
variable {P : Program} {w : World} {K : PySem.W.Frag} {mg : Str → Option Value} {base : Heap} {C AX : Addr}
theorem tot_perm {a b : List (List Pm.Cut)} (h : a.Perm b) (ax : Nat) : Pm.tot a ax = Pm.tot b ax := by
  unfold Pm.tot
  exact (h.map _).foldr_eq' (fun x _ y _ z => by rw [Nat.mul_left_comm]) 1
theorem ok_rev {rs : List (List Pm.Cut)} (h : Pm.RdsOk rs) : Pm.RdsOk rs.reverse := by
  refine ⟨by rw [List.length_reverse]; exact h.1, by rw [List.length_reverse]; exact h.2.1, fun r hr => h.2.2.1 r (List.mem_reverse.mp hr), ?_⟩
  rw [tot_perm (List.reverse_perm rs), tot_perm (List.reverse_perm rs)]
  exact h.2.2.2
theorem rnd_perm {r r' : List Pm.Cut} (p : r'.Perm r) (h : Pm.RndOk r) : Pm.RndOk r' :=
  ⟨by rw [p.length_eq]; exact h.1, by rw [p.length_eq]; exact h.2.1, fun c hc => h.2.2.1 c (p.mem_iff.mp hc), by rw [Pm.size_perm p]; exact h.2.2.2⟩
inductive Rows2 : List (List Pm.Cut) → List (List Pm.Cut) → Prop
  | nil : Rows2 [] []
  | cons {r r' : List Pm.Cut} {rs rs' : List (List Pm.Cut)} (p : r'.Perm r) (t : Rows2 rs rs') : Rows2 (r :: rs) (r' :: rs')
theorem Rows2.tot {rs rs' : List (List Pm.Cut)} (h : Rows2 rs rs') (ax : Nat) : Pm.tot rs' ax = Pm.tot rs ax := by
  induction h with
  | nil => rfl
  | cons p t ih =>
    unfold Pm.tot at ih ⊢
    simp only [List.map_cons, List.foldr_cons, ih, Pm.wid_perm p]
theorem Rows2.len {rs rs' : List (List Pm.Cut)} (h : Rows2 rs rs') : rs'.length = rs.length := by
  induction h with
  | nil => rfl
  | cons p t ih => simp [ih]
theorem Rows2.mem {rs rs' : List (List Pm.Cut)} (h : Rows2 rs rs') : ∀ r' ∈ rs', ∃ r ∈ rs, r'.Perm r := by
  induction h with
  | nil => intro r h; cases h
  | cons p t ih =>
    intro x hx
    rcases List.mem_cons.mp hx with rfl | hx
    · exact ⟨_, List.mem_cons_self .., p⟩
    · obtain ⟨r, h1, h2⟩ := ih x hx
      exact ⟨r, List.mem_cons_of_mem _ h1, h2⟩
theorem Rows2.ok {rs rs' : List (List Pm.Cut)} (h : Rows2 rs rs') (k : Pm.RdsOk rs) : Pm.RdsOk rs' := by
  refine ⟨by rw [h.len]; exact k.1, by rw [h.len]; exact k.2.1, fun r' hr => ?_, by rw [h.tot, h.tot]; exact k.2.2.2⟩
  obtain ⟨r, h1, h2⟩ := h.mem r' hr
  exact rnd_perm h2 (k.2.2.1 r h1)
theorem rows2_of : ∀ (rs : List (List Pm.Cut)) (es : List (List PyData)), es.length = rs.length → (∀ (i : Nat) e, es[i]? = some e → ∃ r, rs[i]? = some r ∧ e.Perm (r.map pCut)) → ∃ rs', Rows2 rs rs' ∧ es.map PyData.list = rs'.map pRnd
  | [], [], _, _ => ⟨[], .nil, rfl⟩
  | [], _ :: _, h, _ => by cases h
  | _ :: _, [], h, _ => by cases h
  | r :: rs, e :: es, hl, hh => by
    obtain ⟨r0, h1, h2⟩ := hh 0 e rfl
    obtain rfl : r = r0 := Option.some.inj h1
    obtain ⟨r', p, q⟩ := perm_map_inv pCut h2 r rfl
    obtain ⟨rs', h3, h4⟩ := rows2_of rs es (Nat.succ.inj hl) fun i e h => by
      obtain ⟨x, y, z⟩ := hh (i + 1) e (by simpa using h)
      exact ⟨x, by simpa using y, z⟩
    exact ⟨r' :: rs', .cons p h3, by rw [List.map_cons, List.map_cons, h4, q]; rfl⟩
theorem ok_two {r : List Pm.Cut} (h : Pm.RdsOk [r]) : Pm.RdsOk [r, r] := by
  refine ⟨Nat.le_add_left 1 1, Nat.le_succ 2, fun x hx => h.2.2.1 x ?_, ?_⟩
  · simp only [List.mem_cons, List.not_mem_nil, or_false] at hx ⊢
    exact hx.elim id id
  · have := h.2.2.2
    simp only [Pm.tot, List.map_cons, List.map_nil, List.foldr_cons, List.foldr_nil, Nat.mul_one] at this ⊢
    rw [this]
theorem pf_cut (c : Pm.Cut) : PF (pCut c) = true := rfl
theorem pf_rnd (r : List Pm.Cut) : PF (pRnd r) = true := by
  refine PF.list ?_ fun d hd => ?_
  · match r with
    | [] => rfl
    | [_] => rfl
    | [_, _] => rfl
    | _ :: _ :: _ :: _ => rfl
  · obtain ⟨c, _, rfl⟩ := List.mem_map.mp hd
    exact pf_cut c
theorem pf_rds (rs : List (List Pm.Cut)) : PF (pRds rs) = true := by
  refine PF.list ?_ fun d hd => ?_
  · match rs with
    | [] => rfl
    | [_] => rfl
    | [_, _] => rfl
    | _ :: _ :: _ :: _ => rfl
  · obtain ⟨r, _, rfl⟩ := List.mem_map.mp hd
    exact pf_rnd r
def sp_lothers (K : PySem.W.Frag) : Sp := fun vs H Q _ => ∃ (p : Addr) (v : V) (rs : List (List Pm.Cut)), vs = [.ref p, v] ∧ Pot H p ∧ Dp K H v (pRds rs) ∧ Pm.RdsOk rs ∧ ∀ u qs H', Dp K H' u (pRds qs) → Pm.RdsOk qs → Pot H' p → Bu p H H' → Q u H'
theorem c_lothers {K : PySem.W.Frag} {p : Addr} {v : V} {rs : List (List Pm.Cut)} {H : Hp} {Q : VK} {E : XK} (h0 : Pot H p) (h1 : Dp K H v (pRds rs)) (h2 : Pm.RdsOk rs) (q : ∀ u qs H', Dp K H' u (pRds qs) → Pm.RdsOk qs → Pot H' p → Bu p H H' → Q u H') : sp_lothers K [.ref p, v] H Q E := ⟨_, _, _, rfl, h0, h1, h2, q⟩
local macro_rules | `(tactic| tb_rel) => `(tactic| repeat (first
  | with_reducible assumption
  | with_reducible exact Dp.int _
  | with_reducible exact Dp.str _
  | with_reducible exact Dp.bl _
  | with_reducible exact Dp.non
  | (with_reducible apply SqT.of; with_reducible assumption)
  | (with_reducible apply SqL.of; with_reducible assumption)
  | (with_reducible apply up_dp; with_reducible assumption)
  | (with_reducible apply up_sqt; with_reducible assumption)
  | (with_reducible apply up_sql; with_reducible assumption)
  | (with_reducible apply up_get; with_reducible assumption)
  | (with_reducible apply up_pot; with_reducible assumption)
  | with_reducible exact Same.refl _
  | with_reducible exact Bu.refl _ _
  | (with_reducible apply up_same; with_reducible assumption)
  | (with_reducible apply up_bu; with_reducible assumption)
  | (with_reducible apply bu_bu; with_reducible assumption)
  | (with_reducible apply free_of; with_reducible assumption)
  | (with_reducible apply mi_fr; with_reducible assumption; (focus (tb_rel; done)))
  | (with_reducible apply mi_dp; with_reducible assumption)
  | (with_reducible apply mi_sqt; with_reducible assumption)
  | (with_reducible apply mi_sql; with_reducible assumption)
  | (with_reducible apply mi_gett; with_reducible assumption)
  | (with_reducible apply mi_getl; with_reducible assumption)
  | (with_reducible apply mi_pot; with_reducible assumption)
  | (with_reducible apply mi_refl; with_reducible assumption; (focus (with_unfolding_all exact rfl)))
  | (with_reducible apply up_mi; with_reducible assumption)
  | (with_reducible apply mi_mi; with_reducible assumption)
  | (with_reducible apply mi_bu; with_reducible assumption)
  | (with_reducible apply up_plan; with_reducible assumption)
  | (with_reducible apply bu_plan; with_reducible assumption; (focus (tb_rel; done)))
  | (with_reducible apply mi_plan; with_reducible assumption; (focus (lcg_src; done)))
  | (with_reducible apply up_bd; with_reducible assumption)
  | (with_reducible apply bd_bd; with_reducible assumption)
  | (with_reducible apply bd_same; with_reducible assumption; (focus (tb_rel; done)))
  | (with_reducible apply bd_bup; with_reducible assumption; (focus (tb_rel; done)))
  | (with_reducible apply bu_getd; with_reducible assumption; (focus (tb_rel; done)))
  | (with_reducible apply bd_dp; with_reducible assumption)
  | (with_reducible apply bd_sqt; with_reducible assumption)
  | (with_reducible apply bd_sql; with_reducible assumption)
  | (with_reducible apply bd_gett; with_reducible assumption)
  | (with_reducible apply bd_getl; with_reducible assumption)
  | (with_reducible apply bd_geti; with_reducible assumption)
  | (with_reducible apply bd_pot; with_reducible assumption)
  | (with_reducible apply pf_dp; with_reducible assumption; (focus (tb_rel; done)); (focus (lcg_src; done)))
  | (with_reducible apply bu_gett; with_reducible assumption; (focus (tb_rel; done)))
  | (with_reducible apply bu_geti; with_reducible assumption; (focus (tb_rel; done)))
  | (with_reducible apply bu_get; with_reducible assumption; (focus (tlg_ne; done)))
  | (with_reducible apply bu_sqt; with_reducible assumption; (focus (tb_rel; done)))
  | (with_reducible apply bu_sql; with_reducible assumption; (focus (tlg_ne; done)))
  | (with_reducible apply bu_dp; with_reducible assumption; (focus (tb_rel; done)); (focus (lcg_src; done)))
  | fail "up"))
local macro_rules | `(tactic| tlg_ne) => `(tactic| first
  | with_reducible assumption
  | (with_reducible apply pot_ne; with_reducible assumption; (focus (tb_rel; done)))
  | fail "ne")
local macro_rules | `(tactic| lcg_src) => `(tactic| first
  | with_reducible assumption
  | with_unfolding_all exact rfl
  | with_unfolding_all decide
  | with_unfolding_all exact Nat.ne_of_beq_eq_false rfl
  | (apply_assumption; done)
  | omega
  | (simp; done)
  | (simp; omega)
  | fail "sd")
local macro_rules | `(tactic| lcg_sub) => `(tactic| first
  | (unfold sizeLine; omega)
  | (simp only [List.length_cons, List.length_nil, List.length_append, List.length_map, List.length_replicate, List.length_take, List.length_drop]; unfold sizeLine; omega)
  | (simp; unfold sizeLine; omega)
  | fail "sz")
local macro_rules | `(tactic| nest_cls) => `(tactic| first
  | (tb_rel; done)
  | (with_reducible apply nmI; (focus (tb_rel; done)))
  | (with_reducible apply d_tup; (focus (tb_rel; done)); (focus (lsm_bools; done)))
  | (with_reducible apply d_lst; (focus (tb_rel; done)); (focus (lsm_bools; done)))
  | fail "dp")
local macro_rules | `(tactic| lsm_bools) => `(tactic| repeat (first
  | with_reducible exact DpAll.nil
  | with_reducible assumption
  | (with_reducible apply DpAll.cons; (focus (nest_cls; done)))
  | fail "dpa"))
local macro_rules | `(tactic| none_booked) => `(tactic| first | with_unfolding_all exact rfl | (with_reducible apply atI_nat; with_reducible assumption) | fail "ix")
local macro_rules | `(tactic| walk_at "go") => `(tactic| repeat (first
  | (focus (with_reducible refine go_var (v := ?_) ?_ ?_; rotate_left; (focus (with_unfolding_all exact rfl))))
  | with_reducible refine go_seq ?_
  | with_reducible refine go_cN ?_
  | with_reducible refine go_c ?_
  | with_reducible refine go_op ?_
  | with_reducible refine go_nil ?_
  | with_reducible refine go_cons ?_
  | with_reducible refine go_cb ?_
  | with_reducible refine go_call0 ?_
  | with_reducible refine go_asg ?_
  | (focus (with_reducible refine go_gname (σ' := ?_) ?_ ?_; rotate_left; (focus (simp only [List.set_cons_succ, List.set_cons_zero]; exact rfl))))
  | with_reducible refine go_par ?_
  | with_reducible refine go_par3 ?_
  | (focus (with_reducible refine go_par3k (σ' := ?_) ?_ ?_; rotate_left; (focus (simp only [List.set_cons_succ, List.set_cons_zero]; exact rfl))))
  | with_reducible refine go_bm ?_
  | (with_reducible apply go_bmL; (focus (tb_rel; done)))
  | (with_reducible apply go_fdX; (focus (with_reducible assumption; done)))
  | (with_reducible apply go_rI; (focus (with_reducible assumption; done)))
  | (focus (with_reducible refine go_par2 (σ' := ?_) ?_ ?_; rotate_left; (focus (simp only [List.set_cons_succ, List.set_cons_zero]; exact rfl))))
  | with_reducible refine go_ifs ?_
  | with_reducible refine go_test ?_
  | with_reducible refine go_tb ?_
  | with_reducible refine go_asb ?_
  | with_reducible refine go_asi ?_
  | with_reducible refine go_ret ?_
  | with_reducible refine go_retn ?_
  | with_reducible refine go_drop ?_
  | with_reducible refine go_next ?_
  | with_reducible refine go_and ?_
  | with_reducible refine go_or ?_
  | with_reducible refine go_not ?_
  | with_reducible refine go_andv ?_
  | with_reducible refine go_orv ?_
  | with_reducible refine go_notv ?_
  | with_reducible refine go_ife ?_
  | with_reducible refine go_chain ?_
  | with_reducible refine go_if1 ?_
  | with_reducible refine go_if0 ?_
  | with_reducible refine go_ifn1 ?_
  | with_reducible refine go_ifn0 ?_
  | (with_reducible apply go_ift; (focus (first | with_reducible rfl | with_reducible assumption | omega)))
  | (with_reducible apply go_ifnt; (focus (first | with_reducible rfl | with_reducible assumption | omega)))
  | (with_reducible apply go_iff; (focus (first | with_reducible assumption | omega)))
  | (with_reducible apply go_ifnf; (focus (first | with_reducible assumption | omega)))
  | with_reducible refine go_un ?_
  | with_reducible refine go_tup ?_
  | with_reducible refine go_lst ?_
  | (with_reducible apply go_newt; (focus (lcg_sub; done)); intros)
  | (with_reducible apply go_newl; (focus (lcg_sub; done)); intros)
  | with_reducible refine go_meth ?_
  | with_reducible refine go_for ?_
  | with_reducible refine go_lc ?_
  | with_reducible refine go_irng1 ?_
  | with_reducible refine go_irng2 ?_
  | with_reducible refine go_ilist ?_
  | with_reducible refine go_itup ?_
  | with_reducible refine go_izip ?_
  | with_reducible refine go_ienum ?_
  | (with_reducible apply go_rg1; (focus (lcg_src; done)))
  | (with_reducible apply go_rg2; (focus (lcg_src; done)); (focus (lcg_src; done)))
  | (with_reducible apply go_lsr; (focus (tb_rel; done)))
  | (with_reducible apply go_tpr; (focus (tb_rel; done)))
  | (with_reducible apply go_zpr; (focus (tb_rel; done)); (focus (tb_rel; done)))
  | (with_reducible apply go_zprT; (focus (tb_rel; done)); (focus (tb_rel; done)))
  | (with_reducible apply go_enrL; (focus (tb_rel; done)))
  | (with_reducible apply go_enrT; (focus (tb_rel; done)))
  | with_reducible refine go_prop ?_
  | with_reducible refine go_knr0 ?_
  | (with_reducible apply go_knr; (focus (with_unfolding_all exact rfl; done)); (focus (simp only [kSw2, kRev3, kId, List.nil_append, List.cons_append]; exact rfl)))
  | with_reducible refine go_mkn ?_
  | (with_reducible apply go_mkr; (focus (tb_rel; done)); (focus (with_unfolding_all exact rfl; done)))
  | with_reducible refine go_fld ?_
  | (with_reducible apply go_flr; (focus (tb_rel; done)); (focus (with_reducible assumption; done)); (focus (with_reducible assumption; done)); (focus (with_unfolding_all exact rfl; done)))
  | (with_reducible apply go_prr; (focus (tb_rel; done)))
  | (with_reducible apply go_mer; (focus (tb_rel; done)); (focus (with_unfolding_all exact rfl; done)))
  | with_reducible refine go_sfld ?_
  | (with_reducible apply go_sfr; (focus (tb_rel; done)); (focus (with_reducible assumption; done)); (focus (with_reducible assumption; done)); (focus (with_unfolding_all exact Nat.le_of_ble_eq_true rfl; done)); (focus (with_unfolding_all exact rfl; done)); intros)
  | with_reducible refine go_revt ?_
  | with_reducible refine go_make0 ?_
  | (focus (with_reducible refine go_aug (x := ?_) ?_ ?_; rotate_left; (focus (with_unfolding_all exact rfl))))
  | (focus (with_reducible refine go_augk (σ' := ?_) ?_ ?_; rotate_left; (focus (simp only [List.set_cons_succ, List.set_cons_zero]; exact rfl))))
  | with_reducible refine go_min2 ?_
  | with_reducible refine go_int1 ?_
  | with_reducible refine go_max2 ?_
  | with_reducible refine go_intB ?_
  | with_reducible refine go_absN ?_
  | with_reducible refine go_isN ?_
  | with_reducible refine go_notN ?_
  | (with_reducible apply go_rvt; (focus (tb_rel; done)); (focus (simp only [List.reverse_cons, List.reverse_nil, List.nil_append, List.cons_append]; exact rfl)); intros)
  | (with_reducible apply go_reprNm; (focus (tb_rel; done)); (focus (with_reducible assumption; done)))
  | (with_reducible apply go_reprPr; (focus (nest_cls; done)); (focus (lcg_src; done)); (focus (lcg_src; done)))
  | with_reducible refine go_sl ?_
  | with_reducible refine go_part ?_
  | with_reducible refine go_nopart ?_
  | (with_reducible apply go_gtup; (focus (tb_rel; done)); (focus (with_unfolding_all exact rfl; done)))
  | (with_reducible apply go_gunl; (focus (tb_rel; done)); (focus (with_unfolding_all exact rfl; done)))
  | with_reducible refine go_gcons ?_
  | with_reducible refine go_gnil ?_
  | with_reducible refine go_addN ?_
  | with_reducible refine go_ltN ?_
  | with_reducible refine go_leN ?_
  | with_reducible refine go_gtN ?_
  | with_reducible refine go_geN ?_
  | (with_reducible apply go_subN; (focus (omega; done)))
  | with_reducible refine go_rI0 ?_
  | (with_reducible apply go_mulN; (focus (omega; done)))
  | (with_reducible apply go_modN; (focus (omega; done)))
  | (with_reducible apply go_divN; (focus (omega; done)))
  | (with_reducible apply go_powN; (focus (with_unfolding_all decide; done)))
  | with_reducible refine go_rU ?_
  | with_reducible refine go_eqN ?_
  | with_reducible refine go_neN ?_
  | with_reducible refine go_isB ?_
  | with_reducible refine go_notB ?_
  | with_reducible refine go_eqS ?_
  | with_reducible refine go_neS ?_
  | with_reducible refine go_eqB ?_
  | with_reducible refine go_eqI ?_
  | with_reducible refine go_neI ?_
  | (with_reducible apply go_ixt; (focus (tb_rel; done)); (focus (none_booked; done)))
  | (with_reducible apply go_ixl; (focus (tb_rel; done)); (focus (none_booked; done)))
  | (with_reducible apply go_lent; (focus (tb_rel; done)))
  | (with_reducible apply go_lenNm; (focus (tb_rel; done)))
  | (with_reducible apply go_isiNm; (focus (tb_rel; done)))
  | (with_reducible apply go_lenl; (focus (tb_rel; done)))
  | (with_reducible apply go_catA; (focus (tb_rel; done)); (focus (tb_rel; done)); (focus (lcg_sub; done)); intros)
  | (with_reducible apply go_slaT; (focus (tb_rel; done)); intros)
  | (with_reducible apply go_slaD; (focus (tb_rel; done)); intros)
  | (with_reducible apply go_rep; (focus (tb_rel; done)); (focus (lcg_src; done)); intros)
  | (with_reducible apply go_tupofl; (focus (tb_rel; done)); intros)
  | (with_reducible apply go_sllT; (focus (tb_rel; done)); intros)
  | (with_reducible apply go_sllD; (focus (tb_rel; done)); intros)
  | (with_reducible apply go_cat; (focus (tb_rel; done)); (focus (tb_rel; done)); (focus (lcg_sub; done)); intros)
  | (with_reducible apply go_eqP; with_reducible assumption; (focus (tb_rel; done)); (focus (tb_rel; done)))
  | (with_reducible apply go_neP; with_reducible assumption; (focus (tb_rel; done)); (focus (tb_rel; done)))
  | (with_reducible apply go_mep; (focus (tb_rel; done)); (focus decide); (focus decide); (focus decide))
  | (with_reducible apply c_drawN; (focus (tb_rel; done)); (focus (lcg_src; done)); (focus (lcg_src; done)); intros)
  | (with_reducible apply c_lothers; (focus (tb_rel; done)); (focus (nest_cls; done)); (focus (lcg_src; done)); intros)
  | (with_reducible apply c_mixed; (focus (tb_rel; done)); (focus (nest_cls; done)); (focus (lcg_src; done)); (focus (lcg_src; done)); intros)
  | (with_reducible apply c_rounds; (focus (tb_rel; done)); intros)
  | with_reducible refine go_dget ?_
  | with_reducible refine go_dgr2 ?_
  | with_reducible refine go_dput ?_
  | with_reducible refine go_dpr2 ?_
  | with_reducible refine go_dpt ?_
  | with_reducible refine go_pnil ?_
  | with_reducible refine go_pcons ?_
  | with_reducible refine go_gsub ?_
  | with_reducible refine go_sir ?_
  | with_reducible refine go_lrg ?_
  | with_reducible refine go_rgt2 ?_
  | with_reducible refine go_rge ?_
  | with_reducible refine go_revl ?_
  | (with_reducible apply go_dgk; (focus (tb_rel; done)); with_reducible assumption)
  | (with_reducible apply go_dpk; (focus (tb_rel; done)); (focus (lcg_sub; done)); intros)
  | (with_reducible apply go_disp; intros)
  | (with_reducible apply go_dsk2; (focus (tb_rel; done)); intros)
  | (with_reducible apply go_lrr; (focus (omega; done)); (focus (omega; done)); intros)
  | (with_reducible apply go_rvl; (focus (tb_rel; done)); intros)
  | (with_reducible apply go_knr; (focus (with_unfolding_all exact rfl; done)); (focus (simp only [kSwM]; exact rfl)))
  | (with_reducible apply go_mkp; (focus (tb_rel; done)); (focus decide); (focus decide); (focus decide))
  | with_reducible refine go_cv ?_
  | with_reducible refine go_cvr ?_
  | with_reducible refine go_mkr1 ?_
  | with_reducible refine go_cma ?_
  | with_reducible refine go_cmk ?_
  | with_reducible refine go_cmr ?_
  | with_reducible refine go_ckr ?_
  | (with_reducible apply go_mkL; (focus (with_unfolding_all exact rfl)))
  | (with_reducible apply go_cmv; (focus (with_unfolding_all exact rfl)); (focus (simp only [gApp, kId, List.nil_append, List.cons_append, List.append_nil]; exact rfl)))
  | (with_reducible apply go_ckv; (focus (with_unfolding_all exact rfl)); (focus (simp only [gApp, kId, List.nil_append, List.cons_append, List.append_nil]; exact rfl)))
  | fail "go"))
theorem ok_lothers {f : Addr} {fd : FuncData} (F : Df K "_law_others" "_law_others" s_lothers [] f fd) (B : Blt mg) (cDr : Ca P w K mg base 1 "_law_draw" sp_draw []) (cMx : Ca P w K mg base 2 "_law_mixed" (sp_mixed K) []) (cRo : Ca P w K mg base 3 "_law_rounds" (sp_rounds K) []) : FnOk P w K mg base CX0 4 f fd ["_law_pot_here", "_law_rows"] (sp_lothers K) := by
  refine dfOk F sc_lothers (fun vs H Q E h => ?_) (fun cdv A outer s H vs Q E hr h => ?_)
  · obtain ⟨p, v, rs, rfl, _⟩ := h
    rfl
  · obtain ⟨p, v, rs, rfl, hp, hv, ok, q⟩ := h
    obtain ⟨a, xs0, rfl, _, _⟩ := hv.lstE
    have len1 := ok.1
    have len3 := ok.2.1
    refine ⟨_, (pss_cons (ps_par (i := 2) (j := 3) (by rfl) sc_lothers.nd rfl rfl (by decide) rfl rfl (pa_cons (pe_ca cDr hr (by decide) (by rfl) (pa_cons (pv 0) (pa_cons pe_int pa_nil))) (pa_cons (pe_lc (own := [("_law_row", 4)]) (by rfl) sc_lothers.nd (pi_list' (pv 1)) (blkOk_by (own := [("_law_row", 4)]) (N := ["_law_pot_here", "_law_rows", "_law_mode", "_law_found", "_law_row", "_law_cut"]) (sc := defScope s_lothers) (by decide +kernel)) (fun _ _ _ _ _ => (pg_name (i := 4) sc_lothers.nd rfl (Or.inl rfl))) (fun _ _ _ _ _ => pts_nil) (fun _ _ _ _ _ => (pe_callTy call_list_of' (by rfl) B.list bt_list (pa_cons (pv 4) pa_nil)))) pa_nil)) (by rfl))
  (pss_cons (ps_if (pt_cmpR op_eq (pv 2) pe_int (nomark _))
  (pss_one (ps_ret (pe_revL' (pv 3))))
  pss_nil)
  (pss_cons (ps_if (pt_cmpR op_eq (pv 2) pe_int (nomark _))
  (pss_one (ps_ret (pe_lc (own := [("_law_row", 4)]) (by rfl) sc_lothers.nd (pi_list' (pv 3)) (blkOk_by (own := [("_law_row", 4)]) (N := ["_law_pot_here", "_law_rows", "_law_mode", "_law_found", "_law_row", "_law_cut"]) (sc := defScope s_lothers) (by decide +kernel)) (fun _ _ _ _ _ => (pg_name (i := 4) sc_lothers.nd rfl (Or.inl rfl))) (fun _ _ _ _ _ => pts_nil) (fun _ _ _ _ _ => (pe_ca cMx hr (by decide) (by rfl) (pa_cons (pv 0) (pa_cons (pv 4) pa_nil)))))))
  pss_nil)
  (pss_cons (ps_if (PW.pt (pw_and (pt_cmpR op_eq (pv 2) pe_int (nomark _)) (pw_and1 (pt_cmpR op_eq (pe_callB call_len_seq' (by rfl) B.len bt_len (pa_cons (pv 3) pa_nil)) pe_int (nomark _)))))
  (pss_one (ps_ret (pe_op op_cat (pv 3) (pe_lst (pa_cons (pe_callTy call_list_of' (by rfl) B.list bt_list (pa_cons (pe_ix ix_list' (pv 3) pe_int (fun _ _ => rfl)) pa_nil)) pa_nil)))))
  pss_nil)
  (pss_cons (ps_if (pt_cmpR op_eq (pv 2) pe_int (nomark _))
  (pss_one (ps_ret (pe_lc (own := [("_law_row", 4)]) (by rfl) sc_lothers.nd (pi_list' (pv 3)) (blkOk_by (own := [("_law_row", 4)]) (N := ["_law_pot_here", "_law_rows", "_law_mode", "_law_found", "_law_row", "_law_cut"]) (sc := defScope s_lothers) (by decide +kernel)) (fun _ _ _ _ _ => (pg_name (i := 4) sc_lothers.nd rfl (Or.inl rfl))) (fun _ _ _ _ _ => pts_nil) (fun _ _ _ _ _ => (pe_lc (own := [("_law_cut", 5)]) (by rfl) sc_lothers.nd (pi_list' (pv 4)) (blkOk_by (own := [("_law_cut", 5)]) (N := ["_law_pot_here", "_law_rows", "_law_mode", "_law_found", "_law_row", "_law_cut"]) (by kernel_rfl)) (fun _ _ _ _ _ => (pg_name (i := 5) sc_lothers.nd rfl (Or.inl rfl))) (fun _ _ _ _ _ => pts_nil) (fun _ _ _ _ _ => (pe_tup (pa_cons (pe_ifExp (pt_cmpR op_eq (pe_ix ix_tup' (pv 5) pe_int (fun _ _ => rfl)) pe_str (nomark _)) pe_str pe_str) (pa_cons (pe_ix ix_tup' (pv 5) pe_int (fun _ _ => rfl)) pa_nil)))))))))
  pss_nil)
  (pss_one (ps_ret (pe_ca cRo hr (by decide) (by rfl) (pa_cons (pv 0) pa_nil))))))))), ?_⟩
    refine go_start (σ := [some _, some _, none, none, none, none]) rfl ?_
    walk_at "go"
    rename_i d H1 ld p1 b1
    have hv1 : Dp K H1 (.ref a) (pRds rs) := pf_dp b1 hp (pf_rds rs) hv
    obtain ⟨a', xs, ea, hs, ha⟩ := hv1.lstE
    cases ea
    have hxl : xs.length = rs.length := by rw [ha.len, List.length_map]
    walk_at "go"
    refine lcNews (K := K) (walk_list (xs := xs)) (fun i => (rs.getD i []).map pCut) (by omega) (fun i _ => nl_cuts _) (fun H' s => s.seq hs) (fun i x H2 H3 Q' hi s1 hy hq => ?_) (fun D H2 ys nD s1 eD hn => ?_) gName_mono
    · obtain ⟨rfl, hx⟩ := hy
      refine ⟨rfl, ?_⟩
      obtain ⟨d, hd1, hd2⟩ := (ha.up s1).get hx
      rw [List.getElem?_map] at hd1
      obtain ⟨r, hr1, rfl⟩ := Option.map_eq_some_iff.mp hd1
      obtain ⟨c, zs, rfl, hzs, hza⟩ := hd2.lstE
      walk_at "go"
      refine go_lstof (.inl hzs) ?_
      intro l H3 nl s3 el
      refine hq l zs H3 nl s3 el ?_
      rw [List.getD_eq_getElem?_getD, hr1]
      exact hza.up s3
    · rw [hxl, range_rds] at hn
      have dF : Dp K H2 (.ref D) (pRds rs) := new_rds hn eD
      have hyl : ys.length = rs.length := by have := hn.dp.len; rw [List.length_map, List.length_map] at this; exact this
      have b2 : Bu p H H2 := by tb_rel
      have p2 : Pot H2 p := by tb_rel
      have hDp : D ≠ p := p1.ne nD
      have dY : DpAll K H2 ys (rs.map pRnd) := by
        have := hn.dp
        rw [List.map_map] at this
        exact this
      clear hv hs ha hv1 b1 s1 hn
      rcases (by omega : d = 0 ∨ d = 1 ∨ (d = 2 ∧ rs.length = 1) ∨ (d = 2 ∧ ¬ rs.length = 1) ∨ d = 3 ∨ d = 4) with rfl | rfl | ⟨rfl, h1⟩ | ⟨rfl, h1⟩ | rfl | rfl
      · walk_at "go"
        rename_i M H3 n3 s3 e3
        have dR := (dY.up s3).rev
        rw [← List.map_reverse] at dR
        exact q _ _ _ (.lst (SqL.of e3) dR) (ok_rev ok) (p2.same s3) (by tb_rel)
      · walk_at "go"
        refine lcNewsB (K := K) (walk_list (xs := ys)) (fun i e => ∃ r, rs[i]? = some r ∧ e.Perm (r.map pCut)) p2 (by omega) (fun H' b => SqL.of (b _ _ hDp eD)) (fun i x H3 H4 Q' hi p3 b3 hy hq => ?_) (fun D2 H3 ys2 es nD2 b3 p3 eD2 hn2 hle hpd => ?_) gName_mono
        · obtain ⟨rfl, hx⟩ := hy
          refine ⟨rfl, ?_⟩
          obtain ⟨d, hd1, hd2⟩ := dY.get hx
          rw [List.getElem?_map] at hd1
          obtain ⟨r, hr1, rfl⟩ := Option.map_eq_some_iff.mp hd1
          have hd3 := pf_dp b3 p2 (pf_rnd r) hd2
          have hr5 := (ok.2.2.1 r (List.mem_of_getElem? hr1)).2.1
          walk_at "go"
          refine ⟨p, _, r.map pCut, rfl, p3, hd3, nl_cuts r, by rw [List.length_map]; omega, fun l zs es H5 pm nl el dz p5 b5 => ?_⟩
          exact hq l zs es H5 nl b5 p5 el (NLs.of fun d hd => NLs.mem (nl_cuts r) d (pm.mem_iff.mp hd)) ⟨r, hr1, pm⟩ dz
        · obtain ⟨rs', r2, em⟩ := rows2_of rs es (by rw [hle, hyl]) hpd
          have dN := hn2.dp
          rw [em] at dN
          exact q _ rs' H3 (.lst (SqL.of eD2) dN) (r2.ok ok) p3 (b2.trans b3)
      · obtain ⟨r, rfl⟩ := List.length_eq_one_iff.mp h1
        obtain ⟨y, rfl⟩ := List.length_eq_one_iff.mp (hyl.trans h1)
        cases dY with
        | cons dy _ =>
          obtain ⟨c, zs, rfl, hzs, hza⟩ := dy.lstE
          walk_at "go"
          refine go_lstof (.inl hzs) fun l H3 n3 s3 e3 => ?_
          walk_at "go"
          rename_i l4 H4 n4 s4 e4 l5 H5 n5 s5 e5
          have dA : Dp K H5 (.ref c) (pRnd r) := by tb_rel
          have dB : Dp K H5 (.ref l) (pRnd r) := .lst (SqL.of (by tb_rel)) (hza.up (by tb_rel))
          exact q _ [r, r] H5 (.lst (SqL.of e5) (.cons dA (.cons dB .nil))) (ok_two ok) (by tb_rel) (by tb_rel)
      · walk_at "go"
        rename_i v qs H3 d3 o3 p3 b3
        exact q v qs H3 d3 o3 p3 (b2.trans b3)
      · walk_at "go"
        refine lcNews (K := K) (walk_list (xs := ys)) (fun i => ((Pm.turn rs).getD i []).map pCut) (by omega) (fun i _ => nl_cuts _) (fun H' s => SqL.of (s _ _ eD)) (fun i x H3 H4 Q' hi s3 hy hq => ?_) (fun D2 H3 ys2 nD2 s3 eD2 hn2 => ?_) gName_mono
        · obtain ⟨rfl, hx⟩ := hy
          refine ⟨rfl, ?_⟩
          obtain ⟨d, hd1, hd2⟩ := (dY.up s3).get hx
          rw [List.getElem?_map] at hd1
          obtain ⟨r, hr1, rfl⟩ := Option.map_eq_some_iff.mp hd1
          obtain ⟨c, zs, rfl, hzs, hza⟩ := hd2.lstE
          have hro := ok.2.2.1 r (List.mem_of_getElem? hr1)
          have hzl : zs.length = r.length := by rw [hza.len, List.length_map]
          have hr5 := hro.2.1
          walk_at "go"
          refine lcList (K := K) (fun j => pCut (Pm.tu (r.getD j (0, 0)))) hzs (by omega) (fun _ _ => rfl) (fun _ => rfl) (fun j y G1 Q2 hj hy s4 hq2 => ?_) (fun D3 G1 ys3 nD3 s4 eD3 hD => ?_)
          · obtain ⟨d, hd1, hd2⟩ := (hza.up s4).get hy
            rw [List.getElem?_map] at hd1
            obtain ⟨c1, hc1, rfl⟩ := Option.map_eq_some_iff.mp hd1
            rw [List.getD_eq_getElem?_getD, hc1] at hq2
            obtain ⟨t, rfl, ht⟩ := cut_at hd2
            have hc := hro.2.2.1 c1 (List.mem_of_getElem? hc1)
            obtain ⟨ax, n⟩ := c1
            rcases (by have : ax < 2 := hc.1; omega : ax = 0 ∨ ax = 1) with rfl | rfl
            · have ht : SqT K G1 t [.str "east", .int (n : Int)] := ht
              walk_at "go"
              rename_i t5 G5 n5 s5 e5
              exact hq2 _ _ s5 (.tup (SqT.of e5) (.cons (.str _) (.cons (.int _) .nil)))
            · have ht : SqT K G1 t [.str "north", .int (n : Int)] := ht
              have ne1 : ¬ (("north" : Str) = ("east" : Str)) := by decide +kernel
              walk_at "go"
              rename_i t5 G5 n5 s5 e5
              exact hq2 _ _ s5 (.tup (SqT.of e5) (.cons (.str _) (.cons (.int _) .nil)))
          · refine hq D3 ys3 G1 nD3 s4 eD3 ?_
            have et : (Pm.turn rs).getD i [] = r.map Pm.tu := by
              unfold Pm.turn
              rw [List.getD_eq_getElem?_getD, List.getElem?_map, hr1]
              rfl
            rw [et]
            have el : (List.range zs.length).map (fun j => pCut (Pm.tu (r.getD j (0, 0)))) = (r.map Pm.tu).map pCut := by
              rw [hzl]
              apply List.ext_getElem?
              intro n
              rw [List.getElem?_map, List.getElem?_map, List.getElem?_map]
              by_cases hn : n < r.length
              · rw [List.getElem?_range hn, List.getElem?_eq_getElem hn]
                simp [List.getD_eq_getElem?_getD, List.getElem?_eq_getElem hn]
              · rw [List.getElem?_eq_none (by rw [List.length_range]; omega), List.getElem?_eq_none (by omega)]
                rfl
            rw [← el]
            exact hD
        · rw [hyl, show rs.length = (Pm.turn rs).length by simp [Pm.turn], range_rds] at hn2
          exact q _ _ H3 (new_rds hn2 eD2) ok.turn (p2.same s3) (by tb_rel)
      · walk_at "go"
        rename_i v qs H3 d3 o3 p3 b3
        exact q v qs H3 d3 o3 p3 (b2.trans b3)
end
end T
set_option Elab.async false
set_option maxRecDepth 100000
set_option maxHeartbeats 4000000
namespace T
open PySem L2 Mv
abbrev s_peqx : Stmt := inClass (top 32) 17
theorem sc_peqx : FnScope ["self", "other"] ["self", "other"] (defScope s_peqx) := ⟨rfl, rfl, rfl, by decide +kernel, rfl, by decide +kernel, by decide +kernel⟩
abbrev s_eqright : Stmt := top 49
theorem sc_eqright : FnScope ["_law_made", "_law_rows", "_law_more", "_law_other", "_law_is_same", "_law_one"] ["_law_made", "_law_rows", "_law_more"] (defScope s_eqright) := ⟨rfl, rfl, rfl, by decide +kernel, rfl, by decide +kernel, by decide +kernel⟩
section
variable {P : Program} {w : World} {K : PySem.W.Frag} {mg : Str → Option Value} {base : Heap} {C AX : Addr}
/-- the kinds that are no Plan -/
structure NoP (K : PySem.W.Frag) (C : Addr) : Prop where
  oth : ∀ t ∈ ["NoneType", "bool", "str", "int", "list", "tuple", "dict"], PySem.W.kitOne K (.type t) (.ref C) = some false ∧ PySem.W.notFirst K C (.type t) = true
/-- a value of another kind -/
inductive Al (K : PySem.W.Frag) (H : Hp) : V → Prop
  | non : Al K H .non
  | bl (b : Bool) : Al K H (.bl b)
  | str (z : Str) : Al K H (.str z)
  | int (i : Int) : Al K H (.int i)
  | lst {a : Addr} {xs : List V} (e : SqL K H a xs) : Al K H (.ref a)
  | tup {a : Addr} {xs : List V} (e : SqT K H a xs) : Al K H (.ref a)
  | dK {a : Addr} {kvs : List (Key × V)} (e : H a = some (.dK kvs)) : Al K H (.ref a)
theorem Al.same {H H' : Hp} {v : V} (h : Al K H v) (s : Same H H') : Al K H' v := by
  cases h with
  | non => exact .non
  | bl b => exact .bl b
  | str z => exact .str z
  | int z => exact .int z
  | lst e => exact .lst (s.seq e)
  | tup e => exact .tup (s.tup e)
  | dK e => exact .dK (s _ _ e)
theorem Al.ty (R : NoP K C) {H : Hp} {v : V} (h : Al K H v) : ∃ ty, TyX K H v ty ∧ PySem.W.kitOne K ty (.ref C) = some false ∧ PySem.W.notFirst K C ty = true := by
  cases h with
  | non => exact ⟨_, .base .non, R.oth "NoneType" (by simp)⟩
  | bl b => exact ⟨_, .base (.bl b), R.oth "bool" (by simp)⟩
  | str z => exact ⟨_, .base (.str z), R.oth "str" (by simp)⟩
  | int z => exact ⟨_, .base (.int z), R.oth "int" (by simp)⟩
  | lst e => exact ⟨_, tyL e, R.oth "list" (by simp)⟩
  | tup e => exact ⟨_, tyT e, R.oth "tuple" (by simp)⟩
  | dK e => exact ⟨_, .base (.dK e), R.oth "dict" (by simp)⟩
def sp_peqx (K : PySem.W.Frag) (C : Addr) : Sp := fun vs H Q _ => ∃ (v u : V) (rs : List (List Pm.Cut)) (t : Value), vs = [v, u] ∧ PlanAt K C H v rs ∧ TyX K H u t ∧ PySem.W.kitOne K t (.ref C) = some false ∧ Q (.bl false) H
theorem c_peqx {K : PySem.W.Frag} {C : Addr} {v u : V} {rs : List (List Pm.Cut)} {t : Value} {H : Hp} {Q : VK} {E : XK} (h0 : PlanAt K C H v rs) (h1 : TyX K H u t) (h2 : PySem.W.kitOne K t (.ref C) = some false) (q : Q (.bl false) H) : sp_peqx K C [v, u] H Q E := ⟨_, _, _, _, rfl, h0, h1, h2, q⟩
def sp_eqright (K : PySem.W.Frag) (C : Addr) : Sp := fun vs H Q _ => ∃ (m v u : V) (rs qs : List (List Pm.Cut)), vs = [m, v, u] ∧ PlanAt K C H m rs ∧ Dp K H v (pRds rs) ∧ Dp K H u (pRds qs) ∧ Pm.RdsOk qs ∧ ∀ H', Same H H' → Q (.bl true) H'
theorem c_eqright {K : PySem.W.Frag} {C : Addr} {m v u : V} {rs qs : List (List Pm.Cut)} {H : Hp} {Q : VK} {E : XK} (h0 : PlanAt K C H m rs) (h1 : Dp K H v (pRds rs)) (h2 : Dp K H u (pRds qs)) (h3 : Pm.RdsOk qs) (q : ∀ H', Same H H' → Q (.bl true) H') : sp_eqright K C [m, v, u] H Q E := ⟨_, _, _, _, _, rfl, h0, h1, h2, h3, q⟩
theorem go_eqA (R : NoP K C) {H : Hp} {m v : V} {rs : List (List Pm.Cut)} {Q : VK} (hm : PlanAt K C H m rs) (h : Al K H v) (q : Q (.bl false) H) : rEqO K C (sp_peqx K C) m v H Q := by
  obtain ⟨ty, h1, h2, h3⟩ := h.ty R
  obtain ⟨a, dx, fs, rfl, ea, _⟩ := plan_obj hm
  exact ⟨a, dx, fs, ty, rfl, ea, h1, h3, _, _, rs, ty, rfl, hm, h1, h2, q⟩
theorem ok_peqx {f : Addr} {fd : FuncData} (F : Df K "__eq__" "Plan.__eq__" s_peqx [] f fd) (B : Blt mg) (G : PlG K mg C AX) : FnOk P w K mg base CX0 1 f fd ["self", "other"] (sp_peqx K C) := by
  refine dfOk F sc_peqx (fun vs H Q E h => ?_) (fun cdv A outer s H vs Q E hr h => ?_)
  · obtain ⟨v, u, rs, t, rfl, _⟩ := h
    rfl
  · obtain ⟨v, u, rs, t, rfl, hp, ty, hk, q⟩ := h
    refine ⟨_, (pss_one (ps_ret (pe_and (pe_callB call_isi' (by rfl) B.isinstance bt_isinstance (pa_cons (pv 1) (pa_cons (pe_glob (by rfl) G.mgC (v := .ref C) rfl) pa_nil))) (pe_one (pe_cmpR (op_eqD' hr.units) (pe_fld' (pv 0) rfl) (pe_fld' (pv 1) rfl) (nomark _)))))), ?_⟩
    refine ⟨_, rfl, _, _, t, .ref C, false, rfl, .own C, ty, hk, false, rfl, ?_⟩
    exact iteF q
theorem pass_rds (qs : List (List Pm.Cut)) : pPass (qs.map fun r => (true, r)) = qs.map pRnd := by
  unfold pPass
  rw [List.map_map]
  rfl
theorem pass_snd (qs : List (List Pm.Cut)) : (qs.map fun r => (true, r)).map Prod.snd = qs := by
  rw [List.map_map]
  exact List.map_id _
local macro_rules | `(tactic| tb_rel) => `(tactic| repeat (first
  | with_reducible assumption
  | with_reducible exact Dp.int _
  | with_reducible exact Dp.str _
  | with_reducible exact Dp.bl _
  | with_reducible exact Dp.non
  | (with_reducible apply SqT.of; with_reducible assumption)
  | (with_reducible apply SqL.of; with_reducible assumption)
  | (with_reducible apply up_dp; with_reducible assumption)
  | (with_reducible apply up_sqt; with_reducible assumption)
  | (with_reducible apply up_sql; with_reducible assumption)
  | (with_reducible apply up_get; with_reducible assumption)
  | (with_reducible apply up_pot; with_reducible assumption)
  | with_reducible exact Same.refl _
  | with_reducible exact Bu.refl _ _
  | (with_reducible apply up_same; with_reducible assumption)
  | (with_reducible apply up_bu; with_reducible assumption)
  | (with_reducible apply bu_bu; with_reducible assumption)
  | (with_reducible apply free_of; with_reducible assumption)
  | (with_reducible apply mi_fr; with_reducible assumption; (focus (tb_rel; done)))
  | (with_reducible apply mi_dp; with_reducible assumption)
  | (with_reducible apply mi_sqt; with_reducible assumption)
  | (with_reducible apply mi_sql; with_reducible assumption)
  | (with_reducible apply mi_gett; with_reducible assumption)
  | (with_reducible apply mi_getl; with_reducible assumption)
  | (with_reducible apply mi_pot; with_reducible assumption)
  | (with_reducible apply mi_refl; with_reducible assumption; (focus (with_unfolding_all exact rfl)))
  | (with_reducible apply up_mi; with_reducible assumption)
  | (with_reducible apply mi_mi; with_reducible assumption)
  | (with_reducible apply mi_bu; with_reducible assumption)
  | (with_reducible apply up_plan; with_reducible assumption)
  | (with_reducible apply bu_plan; with_reducible assumption; (focus (tb_rel; done)))
  | (with_reducible apply mi_plan; with_reducible assumption; (focus (lcg_src; done)))
  | (with_reducible apply up_bd; with_reducible assumption)
  | (with_reducible apply bd_bd; with_reducible assumption)
  | (with_reducible apply bd_same; with_reducible assumption; (focus (tb_rel; done)))
  | (with_reducible apply bd_bup; with_reducible assumption; (focus (tb_rel; done)))
  | (with_reducible apply bu_getd; with_reducible assumption; (focus (tb_rel; done)))
  | (with_reducible apply bd_dp; with_reducible assumption)
  | (with_reducible apply bd_sqt; with_reducible assumption)
  | (with_reducible apply bd_sql; with_reducible assumption)
  | (with_reducible apply bd_gett; with_reducible assumption)
  | (with_reducible apply bd_getl; with_reducible assumption)
  | (with_reducible apply bd_geti; with_reducible assumption)
  | (with_reducible apply bd_pot; with_reducible assumption)
  | (with_reducible apply pf_dp; with_reducible assumption; (focus (tb_rel; done)); (focus (lcg_src; done)))
  | (with_reducible apply bu_gett; with_reducible assumption; (focus (tb_rel; done)))
  | (with_reducible apply bu_geti; with_reducible assumption; (focus (tb_rel; done)))
  | (with_reducible apply bu_get; with_reducible assumption; (focus (tlg_ne; done)))
  | (with_reducible apply bu_sqt; with_reducible assumption; (focus (tb_rel; done)))
  | (with_reducible apply bu_sql; with_reducible assumption; (focus (tlg_ne; done)))
  | (with_reducible apply bu_dp; with_reducible assumption; (focus (tb_rel; done)); (focus (lcg_src; done)))
  | fail "up"))
local macro_rules | `(tactic| tlg_ne) => `(tactic| first
  | with_reducible assumption
  | (with_reducible apply pot_ne; with_reducible assumption; (focus (tb_rel; done)))
  | fail "ne")
local macro_rules | `(tactic| lcg_src) => `(tactic| first
  | with_reducible assumption
  | with_unfolding_all exact rfl
  | with_unfolding_all decide
  | with_unfolding_all exact Nat.ne_of_beq_eq_false rfl
  | (apply_assumption; done)
  | omega
  | (simp; done)
  | (simp; omega)
  | fail "sd")
local macro_rules | `(tactic| lcg_sub) => `(tactic| first
  | (unfold sizeLine; omega)
  | (simp only [List.length_cons, List.length_nil, List.length_append, List.length_map, List.length_replicate, List.length_take, List.length_drop]; unfold sizeLine; omega)
  | (simp; unfold sizeLine; omega)
  | fail "sz")
local macro_rules | `(tactic| nest_cls) => `(tactic| first
  | (tb_rel; done)
  | (with_reducible apply nmI; (focus (tb_rel; done)))
  | (with_reducible apply d_tup; (focus (tb_rel; done)); (focus (lsm_bools; done)))
  | (with_reducible apply d_lst; (focus (tb_rel; done)); (focus (lsm_bools; done)))
  | fail "dp")
local macro_rules | `(tactic| lsm_bools) => `(tactic| repeat (first
  | with_reducible exact DpAll.nil
  | with_reducible assumption
  | (with_reducible apply DpAll.cons; (focus (nest_cls; done)))
  | fail "dpa"))
local macro_rules | `(tactic| none_booked) => `(tactic| first | with_unfolding_all exact rfl | (with_reducible apply atI_nat; with_reducible assumption) | fail "ix")
local macro_rules | `(tactic| walk_at "go") => `(tactic| repeat (first
  | (focus (with_reducible refine go_var (v := ?_) ?_ ?_; rotate_left; (focus (with_unfolding_all exact rfl))))
  | with_reducible refine go_seq ?_
  | with_reducible refine go_cN ?_
  | with_reducible refine go_c ?_
  | with_reducible refine go_op ?_
  | with_reducible refine go_nil ?_
  | with_reducible refine go_cons ?_
  | with_reducible refine go_cb ?_
  | with_reducible refine go_call0 ?_
  | with_reducible refine go_asg ?_
  | (focus (with_reducible refine go_gname (σ' := ?_) ?_ ?_; rotate_left; (focus (simp only [List.set_cons_succ, List.set_cons_zero]; exact rfl))))
  | with_reducible refine go_par ?_
  | with_reducible refine go_par3 ?_
  | (focus (with_reducible refine go_par3k (σ' := ?_) ?_ ?_; rotate_left; (focus (simp only [List.set_cons_succ, List.set_cons_zero]; exact rfl))))
  | with_reducible refine go_bm ?_
  | (with_reducible apply go_bmL; (focus (tb_rel; done)))
  | (with_reducible apply go_fdX; (focus (with_reducible assumption; done)))
  | (with_reducible apply go_rI; (focus (with_reducible assumption; done)))
  | (focus (with_reducible refine go_par2 (σ' := ?_) ?_ ?_; rotate_left; (focus (simp only [List.set_cons_succ, List.set_cons_zero]; exact rfl))))
  | with_reducible refine go_ifs ?_
  | with_reducible refine go_test ?_
  | with_reducible refine go_tb ?_
  | with_reducible refine go_asb ?_
  | with_reducible refine go_asi ?_
  | with_reducible refine go_ret ?_
  | with_reducible refine go_retn ?_
  | with_reducible refine go_drop ?_
  | with_reducible refine go_next ?_
  | with_reducible refine go_and ?_
  | with_reducible refine go_or ?_
  | with_reducible refine go_not ?_
  | with_reducible refine go_andv ?_
  | with_reducible refine go_orv ?_
  | with_reducible refine go_notv ?_
  | with_reducible refine go_ife ?_
  | with_reducible refine go_chain ?_
  | with_reducible refine go_if1 ?_
  | with_reducible refine go_if0 ?_
  | with_reducible refine go_ifn1 ?_
  | with_reducible refine go_ifn0 ?_
  | (with_reducible apply go_ift; (focus (first | with_reducible rfl | with_reducible assumption | omega)))
  | (with_reducible apply go_ifnt; (focus (first | with_reducible rfl | with_reducible assumption | omega)))
  | (with_reducible apply go_iff; (focus (first | with_reducible assumption | omega)))
  | (with_reducible apply go_ifnf; (focus (first | with_reducible assumption | omega)))
  | with_reducible refine go_un ?_
  | with_reducible refine go_tup ?_
  | with_reducible refine go_lst ?_
  | (with_reducible apply go_newt; (focus (lcg_sub; done)); intros)
  | (with_reducible apply go_newl; (focus (lcg_sub; done)); intros)
  | with_reducible refine go_meth ?_
  | with_reducible refine go_for ?_
  | with_reducible refine go_lc ?_
  | with_reducible refine go_irng1 ?_
  | with_reducible refine go_irng2 ?_
  | with_reducible refine go_ilist ?_
  | with_reducible refine go_itup ?_
  | with_reducible refine go_izip ?_
  | with_reducible refine go_ienum ?_
  | (with_reducible apply go_rg1; (focus (lcg_src; done)))
  | (with_reducible apply go_rg2; (focus (lcg_src; done)); (focus (lcg_src; done)))
  | (with_reducible apply go_lsr; (focus (tb_rel; done)))
  | (with_reducible apply go_tpr; (focus (tb_rel; done)))
  | (with_reducible apply go_zpr; (focus (tb_rel; done)); (focus (tb_rel; done)))
  | (with_reducible apply go_zprT; (focus (tb_rel; done)); (focus (tb_rel; done)))
  | (with_reducible apply go_enrL; (focus (tb_rel; done)))
  | (with_reducible apply go_enrT; (focus (tb_rel; done)))
  | with_reducible refine go_prop ?_
  | with_reducible refine go_knr0 ?_
  | (with_reducible apply go_knr; (focus (with_unfolding_all exact rfl; done)); (focus (simp only [kSw2, kRev3, kId, List.nil_append, List.cons_append]; exact rfl)))
  | with_reducible refine go_mkn ?_
  | (with_reducible apply go_mkr; (focus (tb_rel; done)); (focus (with_unfolding_all exact rfl; done)))
  | with_reducible refine go_fld ?_
  | (with_reducible apply go_flr; (focus (tb_rel; done)); (focus (with_reducible assumption; done)); (focus (with_reducible assumption; done)); (focus (with_unfolding_all exact rfl; done)))
  | (with_reducible apply go_prr; (focus (tb_rel; done)))
  | (with_reducible apply go_mer; (focus (tb_rel; done)); (focus (with_unfolding_all exact rfl; done)))
  | with_reducible refine go_sfld ?_
  | (with_reducible apply go_sfr; (focus (tb_rel; done)); (focus (with_reducible assumption; done)); (focus (with_reducible assumption; done)); (focus (with_unfolding_all exact Nat.le_of_ble_eq_true rfl; done)); (focus (with_unfolding_all exact rfl; done)); intros)
  | with_reducible refine go_revt ?_
  | with_reducible refine go_make0 ?_
  | (focus (with_reducible refine go_aug (x := ?_) ?_ ?_; rotate_left; (focus (with_unfolding_all exact rfl))))
  | (focus (with_reducible refine go_augk (σ' := ?_) ?_ ?_; rotate_left; (focus (simp only [List.set_cons_succ, List.set_cons_zero]; exact rfl))))
  | with_reducible refine go_min2 ?_
  | with_reducible refine go_int1 ?_
  | with_reducible refine go_max2 ?_
  | with_reducible refine go_intB ?_
  | with_reducible refine go_absN ?_
  | with_reducible refine go_isN ?_
  | with_reducible refine go_notN ?_
  | (with_reducible apply go_rvt; (focus (tb_rel; done)); (focus (simp only [List.reverse_cons, List.reverse_nil, List.nil_append, List.cons_append]; exact rfl)); intros)
  | (with_reducible apply go_reprNm; (focus (tb_rel; done)); (focus (with_reducible assumption; done)))
  | (with_reducible apply go_reprPr; (focus (nest_cls; done)); (focus (lcg_src; done)); (focus (lcg_src; done)))
  | with_reducible refine go_sl ?_
  | with_reducible refine go_part ?_
  | with_reducible refine go_nopart ?_
  | (with_reducible apply go_gtup; (focus (tb_rel; done)); (focus (with_unfolding_all exact rfl; done)))
  | (with_reducible apply go_gunl; (focus (tb_rel; done)); (focus (with_unfolding_all exact rfl; done)))
  | with_reducible refine go_gcons ?_
  | with_reducible refine go_gnil ?_
  | with_reducible refine go_addN ?_
  | with_reducible refine go_ltN ?_
  | with_reducible refine go_leN ?_
  | with_reducible refine go_gtN ?_
  | with_reducible refine go_geN ?_
  | (with_reducible apply go_subN; (focus (omega; done)))
  | with_reducible refine go_rI0 ?_
  | (with_reducible apply go_mulN; (focus (omega; done)))
  | (with_reducible apply go_modN; (focus (omega; done)))
  | (with_reducible apply go_divN; (focus (omega; done)))
  | (with_reducible apply go_powN; (focus (with_unfolding_all decide; done)))
  | with_reducible refine go_rU ?_
  | with_reducible refine go_eqN ?_
  | with_reducible refine go_neN ?_
  | with_reducible refine go_isB ?_
  | with_reducible refine go_notB ?_
  | with_reducible refine go_eqS ?_
  | with_reducible refine go_neS ?_
  | with_reducible refine go_eqB ?_
  | with_reducible refine go_eqI ?_
  | with_reducible refine go_neI ?_
  | (with_reducible apply go_ixt; (focus (tb_rel; done)); (focus (none_booked; done)))
  | (with_reducible apply go_ixl; (focus (tb_rel; done)); (focus (none_booked; done)))
  | (with_reducible apply go_lent; (focus (tb_rel; done)))
  | (with_reducible apply go_lenNm; (focus (tb_rel; done)))
  | (with_reducible apply go_isiNm; (focus (tb_rel; done)))
  | (with_reducible apply go_lenl; (focus (tb_rel; done)))
  | (with_reducible apply go_catA; (focus (tb_rel; done)); (focus (tb_rel; done)); (focus (lcg_sub; done)); intros)
  | (with_reducible apply go_slaT; (focus (tb_rel; done)); intros)
  | (with_reducible apply go_slaD; (focus (tb_rel; done)); intros)
  | (with_reducible apply go_rep; (focus (tb_rel; done)); (focus (lcg_src; done)); intros)
  | (with_reducible apply go_tupofl; (focus (tb_rel; done)); intros)
  | (with_reducible apply go_sllT; (focus (tb_rel; done)); intros)
  | (with_reducible apply go_sllD; (focus (tb_rel; done)); intros)
  | (with_reducible apply go_cat; (focus (tb_rel; done)); (focus (tb_rel; done)); (focus (lcg_sub; done)); intros)
  | (with_reducible apply go_eqP; with_reducible assumption; (focus (tb_rel; done)); (focus (tb_rel; done)))
  | (with_reducible apply go_neP; with_reducible assumption; (focus (tb_rel; done)); (focus (tb_rel; done)))
  | (with_reducible apply go_mep; (focus (tb_rel; done)); (focus decide); (focus decide); (focus decide))
  | (with_reducible apply c_eqright; (focus (tb_rel; done)); (focus (nest_cls; done)); (focus (nest_cls; done)); (focus (lcg_src; done)); intros)
  | (with_reducible apply c_lplan; (focus (nest_cls; done)); (focus (lcg_src; done)); intros)
  | (with_reducible apply c_peq; (focus (tb_rel; done)); (focus (tb_rel; done)); intros)
  | (with_reducible apply c_peqx; (focus (tb_rel; done)); (focus (lcg_src; done)); (focus (lcg_src; done)); intros)
  | (with_reducible apply c_prepr; (focus (tb_rel; done)); intros)
  | (with_reducible apply c_prounds; (focus (tb_rel; done)); intros)
  | with_reducible refine go_dget ?_
  | with_reducible refine go_dgr2 ?_
  | with_reducible refine go_dput ?_
  | with_reducible refine go_dpr2 ?_
  | with_reducible refine go_dpt ?_
  | with_reducible refine go_pnil ?_
  | with_reducible refine go_pcons ?_
  | with_reducible refine go_gsub ?_
  | with_reducible refine go_sir ?_
  | with_reducible refine go_lrg ?_
  | with_reducible refine go_rgt2 ?_
  | with_reducible refine go_rge ?_
  | with_reducible refine go_revl ?_
  | (with_reducible apply go_dgk; (focus (tb_rel; done)); with_reducible assumption)
  | (with_reducible apply go_dpk; (focus (tb_rel; done)); (focus (lcg_sub; done)); intros)
  | (with_reducible apply go_disp; intros)
  | (with_reducible apply go_dsk2; (focus (tb_rel; done)); intros)
  | (with_reducible apply go_lrr; (focus (omega; done)); (focus (omega; done)); intros)
  | (with_reducible apply go_rvl; (focus (tb_rel; done)); intros)
  | (with_reducible apply go_knr; (focus (with_unfolding_all exact rfl; done)); (focus (simp only [kSwM]; exact rfl)))
  | (with_reducible apply go_mkp; (focus (tb_rel; done)); (focus decide); (focus decide); (focus decide))
  | with_reducible refine go_cv ?_
  | with_reducible refine go_cvr ?_
  | with_reducible refine go_mkr1 ?_
  | with_reducible refine go_cma ?_
  | with_reducible refine go_cmk ?_
  | with_reducible refine go_cmr ?_
  | with_reducible refine go_ckr ?_
  | (with_reducible apply go_mkL; (focus (with_unfolding_all exact rfl)))
  | (with_reducible apply go_cmv; (focus (with_unfolding_all exact rfl)); (focus (simp only [gApp, kId, List.nil_append, List.cons_append, List.append_nil]; exact rfl)))
  | (with_reducible apply go_ckv; (focus (with_unfolding_all exact rfl)); (focus (simp only [gApp, kId, List.nil_append, List.cons_append, List.append_nil]; exact rfl)))
  | fail "go"))
theorem ok_eqright {f : Addr} {fd : FuncData} (F : Df K "_law_equal_right" "_law_equal_right" s_eqright [] f fd) (B : Blt mg) (G : PlG K mg C AX) (R : NoP K C) (cLp : Ca P w K mg base 8 "_law_plan" (sp_lplan K C) []) (cRds : Me P w K mg base 1 C "rounds" (sp_prounds K C) []) (cEqP : Op2 P w K mg base 1 C "__eq__" (sp_peq K C)) (cEqX : Op2 P w K mg base 1 C "__eq__" (sp_peqx K C)) (cRepr : Op2G P w K mg base 2 C "__repr__" ["self"] (sp_prepr K C)) : FnG P w K mg base 9 f fd ["_law_made", "_law_rows", "_law_more"] (sp_eqright K C) := by
  refine dfG F sc_eqright (fun vs H Q E h => ?_) (fun cdv A outer s H vs Q E hr ga h => ?_)
  · obtain ⟨m, v, u, rs, qs, rfl, _⟩ := h
    rfl
  · obtain ⟨m, v, u, rs, qs, rfl, hm, hv, hu, okq, q⟩ := h
    obtain ⟨av, xv, rfl, hs, ha⟩ := hv.lstE
    refine ⟨_, (pss_cons (ps_par (i := 3) (j := 4) (by rfl) sc_eqright.nd rfl rfl (by decide) rfl rfl (pa_cons (pe_ca cLp hr (by decide) (by rfl) (pa_cons (pv 2) pa_nil)) (pa_cons (pe_cmpR (op_eqD' hr.units) (pv 1) (pv 2) (nomark _)) pa_nil)) (by rfl))
  (pss_cons (ps_if (pt_cmpR op_ne (pe_callB (call_reprD' ga hr) (by rfl) B.repr bt_repr (pa_cons (pe_lst (pa_cons (pe_cmpR (op_eqO' cEqP hr (by decide)) (pv 0) (pv 3) (nomark _)) (pa_cons (pe_cmpR (op_eqO' cEqP hr (by decide)) (pv 3) (pv 0) (nomark _)) (pa_cons (pe_cmpR (op_neO' cEqP hr (by decide) G.I.ne G.I.hm) (pv 0) (pv 3) (nomark _)) (pa_cons (pe_cmpR (op_neO' cEqP hr (by decide) G.I.ne G.I.hm) (pv 3) (pv 0) (nomark _)) pa_nil))))) pa_nil)) (pe_callB (call_reprD' ga hr) (by rfl) B.repr bt_repr (pa_cons (pe_lst (pa_cons (pv 4) (pa_cons (pv 4) (pa_cons (pe_not (pv 4)) (pa_cons (pe_not (pv 4)) pa_nil))))) pa_nil)) (nomark _))
  (pss_one (ps_ret pe_bl))
  pss_nil)
  (pss_one (ps_ret (pe_not (pe_callB (cr_any' rfl) (by rfl) B.any bt_any (pa_cons (pe_lc (own := [("_law_one", 5)]) (by rfl) sc_eqright.nd (pi_list' (pe_lst (pa_cons pe_non (pa_cons (pv 1) (pa_cons (pe_callB (call_reprG' cRepr hr ga (by decide)) (by rfl) B.repr bt_repr (pa_cons (pv 0) pa_nil)) (pa_cons (pe_me0 cRds hr (by decide) (pv 0)) (pa_cons (pe_callTy call_tuple_of' (by rfl) B.tuple bt_tuple (pa_cons (pv 1) pa_nil)) (pa_cons pe_int (pa_cons pe_dnewK (pa_cons (pe_callB call_len_seq' (by rfl) B.len bt_len (pa_cons (pv 1) pa_nil)) pa_nil)))))))))) (blkOk_by (own := [("_law_one", 5)]) (N := ["_law_made", "_law_rows", "_law_more", "_law_other", "_law_is_same", "_law_one"]) (sc := defScope s_eqright) (by decide +kernel)) (fun _ _ _ _ _ => (pg_name (i := 5) sc_eqright.nd rfl (Or.inl rfl))) (fun _ _ _ _ _ => pts_nil) (fun _ _ _ _ _ => (pe_cmpR (op_eqO' cEqX hr (by decide)) (pv 0) (pv 5) (nomark _)))) pa_nil))))))), ?_⟩
    refine go_start (σ := [some _, some _, some _, none, none, none]) rfl ?_
    walk_at "go"
    refine ⟨u, qs.map fun r => (true, r), rfl, by rw [pass_rds]; exact hu, by rw [pass_snd]; exact okq, fun o H1 s1 po => ?_⟩
    rw [pass_snd] at po
    have hm1 := hm.same s1
    have hv1 := hv.up s1
    have I := G.I
    walk_at "go"
    refine go_eqD hv1 (hu.up s1) (shaped_rds rs) (shaped_rds qs) ?_
    rw [eqv_rds hm.ok okq]
    walk_at "go"
    rename_i l2 H2 n2 s2 e2
    have eb : decide (qs = rs) = decide (rs = qs) := by
      by_cases h : rs = qs
      · rw [decide_eq_true h, decide_eq_true h.symm]
      · rw [decide_eq_false h, decide_eq_false (fun z => h z.symm)]
    rw [eb] at e2
    generalize hbe : decide (rs = qs) = b at *
    have dB : ∀ {Hx : Hp} {a : Addr}, Hx a = some (.lst [.bl b, .bl b, .bl (!b), .bl (!b)]) → Dp K Hx (.ref a) (.list [.bool b, .bool b, .bool (!b), .bool (!b)]) := fun h => .lst (SqL.of h) (.cons (.bl _) (.cons (.bl _) (.cons (.bl _) (.cons (.bl _) .nil))))
    have sB : Shw (.list [.bool b, .bool b, .bool (!b), .bool (!b)]) := by unfold Shw; cases b <;> decide +kernel
    refine go_reprD (dB e2) sB ?_
    walk_at "go"
    rename_i l3 H3 n3 s3 e3
    refine go_reprD (dB e3) sB ?_
    refine go_neSS ?_
    walk_at "go"
    have hm3 : PlanAt K C H3 m rs := by tb_rel
    refine go_reprP hm3 fun H4 s4 => ?_
    walk_at "go"
    rename_i l5 ys5 H5 n5 s5 e5 w5 l6 H6 n6 s6 e6
    intro l7 n7
    have s7 : Same H6 (upd H6 l7 (.dK [])) := same_new n7
    have e7 : upd H6 l7 (.dK []) l7 = some (.dK []) := upd_same
    generalize upd H6 l7 _ = H7 at *
    walk_at "go"
    rename_i l8 H8 n8 s8 e8
    have e58 : H8 l5 = some (.lst ys5) := by tb_rel
    have e68 : H8 l6 = some (.tup xv) := by tb_rel
    have e78 := s8 _ _ e7
    have hs8 : SqL K H8 av xv := by tb_rel
    have hm8 : PlanAt K C H8 m rs := by tb_rel
    have S8 : Same H H8 := by tb_rel
    have hA : ∀ y ∈ [V.non, V.ref av, V.str (planTxt rs), V.ref l5, V.ref l6, V.int ((0 : Nat) : Int), V.ref l7, V.int (xv.length : Int)], Al K H8 y := fun y hy => by
      simp only [List.mem_cons, List.not_mem_nil, or_false] at hy
      rcases hy with rfl | rfl | rfl | rfl | rfl | rfl | rfl | rfl
      · exact .non
      · exact .lst hs8
      · exact .str _
      · exact .lst (SqL.of e58)
      · exact .tup (SqT.of e68)
      · exact .int _
      · exact .dK e78
      · exact .int _
    generalize hx : [V.non, V.ref av, V.str (planTxt rs), V.ref l5, V.ref l6, V.int ((0 : Nat) : Int), V.ref l7, V.int (xv.length : Int)] = xs at *
    have hx8 : xs.length = 8 := by rw [← hx]; rfl
    refine lcList (K := K) (fun _ => .bool false) (SqL.of e8) (by omega) (fun _ _ => rfl) (fun _ => rfl) (fun i y H9 Q' hi hy s9 hq => ?_) (fun D H9 ys nD s9 eD hall => ?_)
    · walk_at "go"
      exact go_eqA R (hm8.same s9) ((hA y (List.mem_of_getElem? hy)).same s9) (hq _ _ (Same.refl _) (.bl false))
    · have ef : ys = (List.replicate xs.length false).map V.bl := DpAll.boolsE (K := K) (H := H9) (by rw [List.map_const', List.length_range] at hall; rw [List.map_replicate]; exact hall)
      subst ef
      walk_at "go"
      refine go_any (SqL.of eD) ?_
      have ea : (List.replicate xs.length false).any id = false := by simp
      rw [ea]
      walk_at "go"
      exact q _ (S8.trans s9)
end
end T
set_option Elab.async false
set_option maxRecDepth 100000
set_option maxHeartbeats 4000000
namespace T
open PySem L2 Mv
abbrev s_init2 : Stmt := inClass (top 32) 3
theorem sc_init2 : FnScope ["self", "rounds", "cuts", "columns", "rows"] ["self", "rounds"] (defScope s_init2) := ⟨rfl, rfl, rfl, by decide +kernel, rfl, by decide +kernel, by decide +kernel⟩
abbrev s_lplan2 : Stmt := top 42
theorem sc_lplan2 : FnScope ["_law_rows"] ["_law_rows"] (defScope s_lplan2) := ⟨rfl, rfl, rfl, by decide +kernel, rfl, by decide +kernel, by decide +kernel⟩
section
variable {P : Program} {w : World} {K : PySem.W.Frag} {mg : Str → Option Value} {base : Heap} {C AX : Addr}
/-- a Plan that leans on no list at av -/
structure PlanN (K : PySem.W.Frag) (C : Addr) (H : Hp) (av : List Addr) (v : V) (rs : List (List Pm.Cut)) : Prop where
  ex : ∃ a dx D D2 qs ys, v = .ref a ∧ H a = some (.ins C dx (plF (.ref D) (.ref D2) (Pm.cnt rs 0 rs.length))) ∧ RowsAt K H D qs rs ∧ D ∉ av ∧ (∀ q ∈ qs, q ∉ av) ∧ H D2 = some (.lst ys) ∧ D2 ∉ av ∧ DpAll K H ys (rs.map fun r => .tuple [.int (Pm.wid r 0), .int (Pm.wid r 1)])
  ok : Pm.RdsOk rs
theorem nl_parts (rs : List (List Pm.Cut)) : NLs (rs.map fun r => PyData.tuple [.int (Pm.wid r 0), .int (Pm.wid r 1)]) = true := NLs.map _ (fun _ => rfl) rs
theorem PlanN.at_ {H : Hp} {av : List Addr} {v : V} {rs : List (List Pm.Cut)} (h : PlanN K C H av v rs) : PlanAt K C H v rs := by
  obtain ⟨a, dx, D, D2, qs, ys, e, ea, hr, n1, n2, e2, n3, hp⟩ := h.ex
  exact ⟨⟨a, dx, _, _, e, ea, .lst (SqL.of hr.at_) hr.dp, .lst (SqL.of e2) hp⟩, h.ok⟩
theorem PlanN.same {H H' : Hp} {av : List Addr} {v : V} {rs : List (List Pm.Cut)} (h : PlanN K C H av v rs) (s : Same H H') : PlanN K C H' av v rs := by
  obtain ⟨a, dx, D, D2, qs, ys, e, ea, hr, n1, n2, e2, n3, hp⟩ := h.ex
  exact ⟨⟨a, dx, D, D2, qs, ys, e, s _ _ ea, hr.same s, n1, n2, s _ _ e2, n3, hp.up s⟩, h.ok⟩
theorem PlanN.bu {H H' : Hp} {av : List Addr} {v : V} {rs : List (List Pm.Cut)} {p : Addr} {ws : List V} (h : PlanN K C H av v rs) (b : Bu p H H') (hp : H p = some (.lst ws)) (hm : p ∈ av) : PlanN K C H' av v rs := by
  obtain ⟨a, dx, D, D2, qs, ys, e, ea, hr, n1, n2, e2, n3, hq⟩ := h.ex
  exact ⟨⟨a, dx, D, D2, qs, ys, e, b _ _ (fun z => by rw [z, hp] at ea; cases ea) ea, hr.bu b hp (fun z => n1 (z ▸ hm)) (fun z => n2 _ z hm), n1, n2, b _ _ (fun z => n3 (z ▸ hm)) e2, n3, hq.bu (nl_parts rs) b hp⟩, h.ok⟩
def sp_init2 (K : PySem.W.Frag) (C : Addr) : Sp := fun vs H Q _ => ∃ (x dx : Addr) (v : V) (brs : List (Bool × List Pm.Cut)), vs = [.ref x, v] ∧ H x = some (.ins C dx []) ∧ Dp K H v (.tuple (pPass brs)) ∧ Pm.RdsOk (brs.map Prod.snd) ∧
  ∀ H', Bu x H H' → (∀ av : List Addr, (∀ q ∈ av, H q ≠ none) → PlanN K C H' av (.ref x) (brs.map Prod.snd)) → Q .non H'
theorem c_init2 {K : PySem.W.Frag} {C : Addr} {x dx : Addr} {v : V} {brs : List (Bool × List Pm.Cut)} {H : Hp} {Q : VK} {E : XK} (h0 : H x = some (.ins C dx [])) (h1 : Dp K H v (.tuple (pPass brs))) (h2 : Pm.RdsOk (brs.map Prod.snd)) (q : ∀ H', Bu x H H' → (∀ av : List Addr, (∀ q ∈ av, H q ≠ none) → PlanN K C H' av (.ref x) (brs.map Prod.snd)) → Q .non H') : sp_init2 K C [.ref x, v] H Q E := ⟨_, _, _, _, rfl, h0, h1, h2, q⟩
theorem rows_of {H H' : Hp} {D : Addr} {ys : List V} {rs : List (List Pm.Cut)} (h : NewLs K H H' D ys (rs.map fun r => r.map pCut)) (e : H' D = some (.lst ys)) : ∃ qs, RowsAt K H' D qs rs ∧ ∀ q ∈ qs, H q = none := by
  obtain ⟨qs, rfl, _, _, hl, hq⟩ := h.ex
  rw [List.length_map] at hl
  refine ⟨qs, ⟨e, hl, fun j q r h1 h2 => ?_⟩, fun q hm => ?_⟩
  · exact (hq j q (r.map pCut) h1 (by rw [List.getElem?_map, h2]; rfl)).2.2
  · obtain ⟨j, hj⟩ := List.getElem?_of_mem hm
    have hjl : j < rs.length := by have := (List.getElem?_eq_some_iff.mp hj).1; omega
    exact (hq j q ((rs[j]).map pCut) hj (by rw [List.getElem?_map, List.getElem?_eq_getElem hjl]; rfl)).1
local macro_rules | `(tactic| tb_rel) => `(tactic| repeat (first
  | with_reducible assumption
  | with_reducible exact Dp.int _
  | with_reducible exact Dp.str _
  | with_reducible exact Dp.bl _
  | with_reducible exact Dp.non
  | (with_reducible apply SqT.of; with_reducible assumption)
  | (with_reducible apply SqL.of; with_reducible assumption)
  | (with_reducible apply up_dp; with_reducible assumption)
  | (with_reducible apply up_sqt; with_reducible assumption)
  | (with_reducible apply up_sql; with_reducible assumption)
  | (with_reducible apply up_get; with_reducible assumption)
  | (with_reducible apply up_pot; with_reducible assumption)
  | with_reducible exact Same.refl _
  | with_reducible exact Bu.refl _ _
  | (with_reducible apply up_same; with_reducible assumption)
  | (with_reducible apply up_bu; with_reducible assumption)
  | (with_reducible apply bu_bu; with_reducible assumption)
  | (with_reducible apply free_of; with_reducible assumption)
  | (with_reducible apply mi_fr; with_reducible assumption; (focus (tb_rel; done)))
  | (with_reducible apply mi_dp; with_reducible assumption)
  | (with_reducible apply mi_sqt; with_reducible assumption)
  | (with_reducible apply mi_sql; with_reducible assumption)
  | (with_reducible apply mi_gett; with_reducible assumption)
  | (with_reducible apply mi_getl; with_reducible assumption)
  | (with_reducible apply mi_pot; with_reducible assumption)
  | (with_reducible apply mi_refl; with_reducible assumption; (focus (with_unfolding_all exact rfl)))
  | (with_reducible apply up_mi; with_reducible assumption)
  | (with_reducible apply mi_mi; with_reducible assumption)
  | (with_reducible apply mi_bu; with_reducible assumption)
  | (with_reducible apply up_plan; with_reducible assumption)
  | (with_reducible apply mi_plan; with_reducible assumption; (focus (lcg_src; done)))
  | (with_reducible apply bu_gett; with_reducible assumption; (focus (tb_rel; done)))
  | (with_reducible apply bu_geti; with_reducible assumption; (focus (tb_rel; done)))
  | (with_reducible apply bu_get; with_reducible assumption; (focus (tlg_ne; done)))
  | (with_reducible apply bu_sqt; with_reducible assumption; (focus (tb_rel; done)))
  | (with_reducible apply bu_sql; with_reducible assumption; (focus (tlg_ne; done)))
  | (with_reducible apply bu_dp; with_reducible assumption; (focus (tb_rel; done)); (focus (lcg_src; done)))
  | fail "up"))
local macro_rules | `(tactic| tlg_ne) => `(tactic| first
  | with_reducible assumption
  | (with_reducible apply pot_ne; with_reducible assumption; (focus (tb_rel; done)))
  | fail "ne")
local macro_rules | `(tactic| lcg_src) => `(tactic| first
  | with_reducible assumption
  | with_unfolding_all exact rfl
  | with_unfolding_all decide
  | with_unfolding_all exact Nat.ne_of_beq_eq_false rfl
  | (apply_assumption; done)
  | omega
  | (simp; done)
  | (simp; omega)
  | fail "sd")
local macro_rules | `(tactic| lcg_sub) => `(tactic| first
  | (unfold sizeLine; omega)
  | (simp only [List.length_cons, List.length_nil, List.length_append, List.length_map, List.length_replicate, List.length_take, List.length_drop]; unfold sizeLine; omega)
  | (simp; unfold sizeLine; omega)
  | fail "sz")
local macro_rules | `(tactic| nest_cls) => `(tactic| first
  | (tb_rel; done)
  | (with_reducible apply nmI; (focus (tb_rel; done)))
  | (with_reducible apply d_tup; (focus (tb_rel; done)); (focus (lsm_bools; done)))
  | (with_reducible apply d_lst; (focus (tb_rel; done)); (focus (lsm_bools; done)))
  | fail "dp")
local macro_rules | `(tactic| lsm_bools) => `(tactic| repeat (first
  | with_reducible exact DpAll.nil
  | with_reducible assumption
  | (with_reducible apply DpAll.cons; (focus (nest_cls; done)))
  | fail "dpa"))
local macro_rules | `(tactic| none_booked) => `(tactic| first | with_unfolding_all exact rfl | (with_reducible apply atI_nat; with_reducible assumption) | fail "ix")
local macro_rules | `(tactic| walk_at "go") => `(tactic| repeat (first
  | (focus (with_reducible refine go_var (v := ?_) ?_ ?_; rotate_left; (focus (with_unfolding_all exact rfl))))
  | with_reducible refine go_seq ?_
  | with_reducible refine go_cN ?_
  | with_reducible refine go_c ?_
  | with_reducible refine go_op ?_
  | with_reducible refine go_nil ?_
  | with_reducible refine go_cons ?_
  | with_reducible refine go_cb ?_
  | with_reducible refine go_call0 ?_
  | with_reducible refine go_asg ?_
  | (focus (with_reducible refine go_gname (σ' := ?_) ?_ ?_; rotate_left; (focus (simp only [List.set_cons_succ, List.set_cons_zero]; exact rfl))))
  | with_reducible refine go_par ?_
  | with_reducible refine go_par3 ?_
  | (focus (with_reducible refine go_par3k (σ' := ?_) ?_ ?_; rotate_left; (focus (simp only [List.set_cons_succ, List.set_cons_zero]; exact rfl))))
  | with_reducible refine go_bm ?_
  | (with_reducible apply go_bmL; (focus (tb_rel; done)))
  | (with_reducible apply go_fdX; (focus (with_reducible assumption; done)))
  | (with_reducible apply go_rI; (focus (with_reducible assumption; done)))
  | (focus (with_reducible refine go_par2 (σ' := ?_) ?_ ?_; rotate_left; (focus (simp only [List.set_cons_succ, List.set_cons_zero]; exact rfl))))
  | with_reducible refine go_ifs ?_
  | with_reducible refine go_test ?_
  | with_reducible refine go_tb ?_
  | with_reducible refine go_asb ?_
  | with_reducible refine go_asi ?_
  | with_reducible refine go_ret ?_
  | with_reducible refine go_retn ?_
  | with_reducible refine go_drop ?_
  | with_reducible refine go_next ?_
  | with_reducible refine go_and ?_
  | with_reducible refine go_or ?_
  | with_reducible refine go_not ?_
  | with_reducible refine go_andv ?_
  | with_reducible refine go_orv ?_
  | with_reducible refine go_notv ?_
  | with_reducible refine go_ife ?_
  | with_reducible refine go_chain ?_
  | with_reducible refine go_if1 ?_
  | with_reducible refine go_if0 ?_
  | with_reducible refine go_ifn1 ?_
  | with_reducible refine go_ifn0 ?_
  | (with_reducible apply go_ift; (focus (first | with_reducible rfl | with_reducible assumption | omega)))
  | (with_reducible apply go_ifnt; (focus (first | with_reducible rfl | with_reducible assumption | omega)))
  | (with_reducible apply go_iff; (focus (first | with_reducible assumption | omega)))
  | (with_reducible apply go_ifnf; (focus (first | with_reducible assumption | omega)))
  | with_reducible refine go_un ?_
  | with_reducible refine go_tup ?_
  | with_reducible refine go_lst ?_
  | (with_reducible apply go_newt; (focus (lcg_sub; done)); intros)
  | (with_reducible apply go_newl; (focus (lcg_sub; done)); intros)
  | with_reducible refine go_meth ?_
  | with_reducible refine go_for ?_
  | with_reducible refine go_lc ?_
  | with_reducible refine go_irng1 ?_
  | with_reducible refine go_irng2 ?_
  | with_reducible refine go_ilist ?_
  | with_reducible refine go_itup ?_
  | with_reducible refine go_izip ?_
  | with_reducible refine go_ienum ?_
  | (with_reducible apply go_rg1; (focus (lcg_src; done)))
  | (with_reducible apply go_rg2; (focus (lcg_src; done)); (focus (lcg_src; done)))
  | (with_reducible apply go_lsr; (focus (tb_rel; done)))
  | (with_reducible apply go_tpr; (focus (tb_rel; done)))
  | (with_reducible apply go_zpr; (focus (tb_rel; done)); (focus (tb_rel; done)))
  | (with_reducible apply go_zprT; (focus (tb_rel; done)); (focus (tb_rel; done)))
  | (with_reducible apply go_enrL; (focus (tb_rel; done)))
  | (with_reducible apply go_enrT; (focus (tb_rel; done)))
  | with_reducible refine go_prop ?_
  | with_reducible refine go_knr0 ?_
  | (with_reducible apply go_knr; (focus (with_unfolding_all exact rfl; done)); (focus (simp only [kSw2, kRev3, kId, List.nil_append, List.cons_append]; exact rfl)))
  | with_reducible refine go_mkn ?_
  | (with_reducible apply go_mkr; (focus (tb_rel; done)); (focus (with_unfolding_all exact rfl; done)))
  | with_reducible refine go_fld ?_
  | (with_reducible apply go_flr; (focus (tb_rel; done)); (focus (with_reducible assumption; done)); (focus (with_reducible assumption; done)); (focus (with_unfolding_all exact rfl; done)))
  | (with_reducible apply go_prr; (focus (tb_rel; done)))
  | (with_reducible apply go_mer; (focus (tb_rel; done)); (focus (with_unfolding_all exact rfl; done)))
  | with_reducible refine go_sfld ?_
  | (with_reducible apply go_sfr; (focus (tb_rel; done)); (focus (with_reducible assumption; done)); (focus (with_reducible assumption; done)); (focus (with_unfolding_all exact Nat.le_of_ble_eq_true rfl; done)); (focus (with_unfolding_all exact rfl; done)); intros)
  | with_reducible refine go_revt ?_
  | with_reducible refine go_make0 ?_
  | (focus (with_reducible refine go_aug (x := ?_) ?_ ?_; rotate_left; (focus (with_unfolding_all exact rfl))))
  | (focus (with_reducible refine go_augk (σ' := ?_) ?_ ?_; rotate_left; (focus (simp only [List.set_cons_succ, List.set_cons_zero]; exact rfl))))
  | with_reducible refine go_min2 ?_
  | with_reducible refine go_int1 ?_
  | with_reducible refine go_max2 ?_
  | with_reducible refine go_intB ?_
  | with_reducible refine go_absN ?_
  | with_reducible refine go_isN ?_
  | with_reducible refine go_notN ?_
  | (with_reducible apply go_rvt; (focus (tb_rel; done)); (focus (simp only [List.reverse_cons, List.reverse_nil, List.nil_append, List.cons_append]; exact rfl)); intros)
  | (with_reducible apply go_reprNm; (focus (tb_rel; done)); (focus (with_reducible assumption; done)))
  | (with_reducible apply go_reprPr; (focus (nest_cls; done)); (focus (lcg_src; done)); (focus (lcg_src; done)))
  | with_reducible refine go_sl ?_
  | with_reducible refine go_part ?_
  | with_reducible refine go_nopart ?_
  | (with_reducible apply go_gtup; (focus (tb_rel; done)); (focus (with_unfolding_all exact rfl; done)))
  | (with_reducible apply go_gunl; (focus (tb_rel; done)); (focus (with_unfolding_all exact rfl; done)))
  | with_reducible refine go_gcons ?_
  | with_reducible refine go_gnil ?_
  | with_reducible refine go_addN ?_
  | with_reducible refine go_ltN ?_
  | with_reducible refine go_leN ?_
  | with_reducible refine go_gtN ?_
  | with_reducible refine go_geN ?_
  | (with_reducible apply go_subN; (focus (omega; done)))
  | with_reducible refine go_rI0 ?_
  | (with_reducible apply go_mulN; (focus (omega; done)))
  | (with_reducible apply go_modN; (focus (omega; done)))
  | (with_reducible apply go_divN; (focus (omega; done)))
  | (with_reducible apply go_powN; (focus (with_unfolding_all decide; done)))
  | with_reducible refine go_rU ?_
  | with_reducible refine go_eqN ?_
  | with_reducible refine go_neN ?_
  | with_reducible refine go_isB ?_
  | with_reducible refine go_notB ?_
  | with_reducible refine go_eqS ?_
  | with_reducible refine go_neS ?_
  | with_reducible refine go_eqB ?_
  | with_reducible refine go_eqI ?_
  | with_reducible refine go_neI ?_
  | (with_reducible apply go_ixt; (focus (tb_rel; done)); (focus (none_booked; done)))
  | (with_reducible apply go_ixl; (focus (tb_rel; done)); (focus (none_booked; done)))
  | (with_reducible apply go_lent; (focus (tb_rel; done)))
  | (with_reducible apply go_lenNm; (focus (tb_rel; done)))
  | (with_reducible apply go_isiNm; (focus (tb_rel; done)))
  | (with_reducible apply go_lenl; (focus (tb_rel; done)))
  | (with_reducible apply go_catA; (focus (tb_rel; done)); (focus (tb_rel; done)); (focus (lcg_sub; done)); intros)
  | (with_reducible apply go_slaT; (focus (tb_rel; done)); intros)
  | (with_reducible apply go_slaD; (focus (tb_rel; done)); intros)
  | (with_reducible apply go_rep; (focus (tb_rel; done)); (focus (lcg_src; done)); intros)
  | (with_reducible apply go_tupofl; (focus (tb_rel; done)); intros)
  | (with_reducible apply go_sllT; (focus (tb_rel; done)); intros)
  | (with_reducible apply go_sllD; (focus (tb_rel; done)); intros)
  | (with_reducible apply go_cat; (focus (tb_rel; done)); (focus (tb_rel; done)); (focus (lcg_sub; done)); intros)
  | (with_reducible apply go_mep; (focus (tb_rel; done)); (focus decide); (focus decide); (focus decide))
  | (with_reducible apply c_along1; (focus (lcg_src; done)); (focus (nest_cls; done)); (focus (lcg_src; done)); intros)
  | (with_reducible apply c_init2; (focus (tb_rel; done)); (focus (nest_cls; done)); (focus (lcg_src; done)); intros)
  | (with_reducible apply c_lplan2; (focus (nest_cls; done)); (focus (lcg_src; done)); intros)
  | (with_reducible apply c_prod; (focus (lcg_src; done)); (focus (tb_rel; done)); (focus (lcg_src; done)); (focus (nest_cls; done)); (focus (lcg_src; done)); intros)
  | (with_reducible apply c_wantrounds; (focus (nest_cls; done)); (focus (lcg_src; done)); intros)
  | fail "go"))
theorem ok_init2 {f : Addr} {fd : FuncData} (F : Df K "__init__" "Plan.__init__" s_init2 [] f fd) (B : Blt mg) (G : PlG K mg C AX) (cWR : Ca P w K mg base 5 "want_rounds" (sp_wantrounds K) []) (c1 : Ca P w K mg base 1 "parts_along" (sp_along1 K) []) (cPr : Me P w K mg base 1 C "product_of" (sp_prod K C) []) :
    FnR P w K mg base CX0 6 f (fun vs H Q E => ∃ ws rest, vs = ws ++ rest ∧ ws.length = 1 ∧ rest.length ≤ sizeLine ∧ ∀ p, H p = Option.none → sp_init2 K C (ws ++ [V.ref p]) (upd H p (.tup rest)) Q E) := by
  refine dfStar (ps := ["self"]) (pv := "rounds") F sc_init2 (fun kV doc pm an cdv ct => StX.bind_star1 (B := fun us => bindArgs (PySem.W.fnOf "__init__" "Plan.__init__" (defArgs s_init2) (defBody s_init2) (defScope s_init2) .none kV doc pm an cdv ct) ⟨us, []⟩) (fun a => rfl) (fun a r rs => rfl)) (fun cdv A outer s H vs Q E hr h => ?_)
  obtain ⟨x, dx, v, brs, rfl, ex, hd, hok, q⟩ := h
  obtain ⟨a, xs, rfl, hs, ha⟩ := hd.tupE
  have hlen : xs.length = brs.length := by rw [ha.len]; simp [pPass]
  have l1 : 1 ≤ brs.length := by have := hok.1; simpa using this
  have l2 : brs.length ≤ 3 := by have := hok.2.1; simpa using this
  obtain ⟨rs, ers⟩ : ∃ rs, brs.map Prod.snd = rs := ⟨_, rfl⟩
  have lrs : rs.length = brs.length := by rw [← ers]; simp
  rw [ers] at hok
  refine ⟨_, (pss_cons (ps_expr (pe_ca cWR hr (by decide) (by rfl) (pa_cons (pv 1) pa_nil)))
  (pss_cons (ps_fld' (pv 0) (pe_lc (own := [("cuts", 2)]) (by rfl) sc_init.nd (pi_seq' (pv 1)) (blkOk_by (own := [("cuts", 2)]) (N := ["self", "rounds", "cuts", "columns", "rows"]) (sc := defScope s_init) (by decide +kernel)) (fun _ _ _ _ _ => (pg_name (i := 2) sc_init.nd rfl (Or.inl rfl))) (fun _ _ _ _ _ => pts_nil) (fun _ _ _ _ _ => (pe_callTy call_list_of' (by rfl) B.list bt_list (pa_cons (pv 2) pa_nil)))) rfl)
  (pss_cons (ps_fld' (pv 0) (pe_lc (own := [("cuts", 2)]) (by rfl) sc_init.nd (pi_list' (pe_fld' (pv 0) rfl)) (blkOk_by (own := [("cuts", 2)]) (N := ["self", "rounds", "cuts", "columns", "rows"]) (sc := defScope s_init) (by decide +kernel)) (fun _ _ _ _ _ => (pg_name (i := 2) sc_init.nd rfl (Or.inl rfl))) (fun _ _ _ _ _ => pts_nil) (fun _ _ _ _ _ => (pe_tup (pa_cons (pe_ca c1 hr (by decide) (by rfl) (pa_cons (pv 2) (pa_cons (pe_globS G.east (by rfl)) pa_nil))) (pa_cons (pe_ca c1 hr (by decide) (by rfl) (pa_cons (pv 2) (pa_cons (pe_globS G.north (by rfl)) pa_nil))) pa_nil))))) rfl)
  (pss_cons (ps_asg (pe_me cPr hr (by decide) (pv 0) (pa_cons (pe_callB call_len_seq' (by rfl) B.len bt_len (pa_cons (pv 1) pa_nil)) pa_nil)) (pg_tup' 2 (pgs_cons (pg_name (i := 3) sc_init.nd rfl (Or.inl rfl)) (pgs_cons (pg_name (i := 4) sc_init.nd rfl (Or.inl rfl)) pgs_nil))))
  (pss_cons (ps_if (pt_cmpR op_ne (pv 3) (pv 4) (nomark _))
  pss_never
  pss_nil)
  (pss_one (ps_fld' (pv 0) (pv 3) rfl))))))), ?_⟩
  refine go_start (σ := [some _, some _, none, none, none]) rfl ?_
  walk_at "go"
  refine ⟨_, brs, rfl, hd, ers ▸ hok, fun H1 s1 => ?_⟩
  have hs1 := Same.tup s1 hs
  have ha1 := ha.up s1
  walk_at "go"
  refine ⟨_, rfl, false, a, xs, rfl, hs1, ?_⟩
  refine lcNews (K := K) (walk_K (b := false) (a := a) (xs := xs)) (fun i => (rs.getD i []).map pCut) (by omega) (fun i _ => nl_cuts _) (fun H' s' => Same.sqk (b := false) s' hs1) ?_ ?_ gName_mono
  · rintro i y H2 _ Q2 hi s2 ⟨rfl, hy⟩ hq
    refine ⟨rfl, ?_⟩
    obtain ⟨d, hd1, hd2⟩ := (ha1.up s2).get hy
    unfold pPass at hd1
    rw [List.getElem?_map] at hd1
    obtain ⟨c, hc1, rfl⟩ := Option.map_eq_some_iff.mp hd1
    have he' : (rs.getD i []).map pCut = c.2.map pCut := by
      rw [← ers, List.getD_eq_getElem?_getD, List.getElem?_map, hc1]
      rfl
    rw [he'] at hq
    obtain ⟨b, zs, rfl, hz, hza⟩ := hd2.seqE
    exact ⟨_, rfl, b, zs, rfl, sqK_or hz, fun l hl => hq l zs _ hl (same_new hl) upd_same (hza.up (same_new hl))⟩
  · intro D H2 ys nD s2 eD hall
    rw [show xs.length = rs.length by omega, range_rds] at hall
    have ex2 := s2 _ _ (s1 _ _ ex)
    refine ⟨_, rfl, x, C, dx, [], rfl, ex2, G.I.cl, G.nR, by decide, ?_⟩
    have hR : Dp K H2 (.ref D) (pRds rs) := new_rds hall eD
    obtain ⟨qs, hrows, hqs⟩ := rows_of hall eD
    have b3 : Bu x H2 (upd H2 x (.ins C dx [("own_rounds", .ref D)])) := Bu.set
    have hR3 := Dp.ins' b3 ex2 _ _ hR
    have hs3 := Bu.insT b3 ex2 (Same.tup s2 hs1)
    have bb : Bu x H (upd H2 x (.ins C dx [("own_rounds", .ref D)])) := (Bu.of (s1.trans s2) x).trans b3
    show tSeq _ _ _ _ (upd H2 x (.ins C dx [("own_rounds", .ref D)]))
    have ex3 : upd H2 x (.ins C dx [("own_rounds", .ref D)]) x = some (.ins C dx [("own_rounds", .ref D)]) := upd_same
    generalize upd H2 x (.ins C dx [("own_rounds", .ref D)]) = H3 at *
    obtain ⟨_, rsx, eD', hsR, haR⟩ := hR3.lstE
    cases eD'
    have hlR : rsx.length = rs.length := by rw [haR.len, List.length_map]
    refine ⟨_, rfl, x, C, dx, _, .ref D, rfl, ex3, G.I.cl, G.nR, rfl, D, rfl, ⟨_, hsR⟩, fun D2 hD2 => lc_nl (K := K) (walk_list (xs := rsx)) (rs.map fun r => .tuple [.int (Pm.wid r 0), .int (Pm.wid r 1)]) (by simp; omega) (by omega) (NLs.map _ (fun _ => rfl) rs) hD2 (fun H' s' => s'.seq hsR) ?_ ?_ gName_mono⟩
    · rintro i e y H4 _ Q2 hi he s4 ⟨rfl, hy⟩ hq
      refine ⟨rfl, ?_⟩
      obtain ⟨d, hd1, hd2⟩ := (haR.up s4).get hy
      rw [List.getElem?_map] at hd1 he
      obtain ⟨r, hr1, rfl⟩ := Option.map_eq_some_iff.mp hd1
      rw [hr1] at he
      obtain rfl := Option.some.inj he
      have hro := hok.2.2.1 r (List.mem_of_getElem? hr1)
      refine ⟨_, rfl, y, true, r, 0, rfl, by decide, hd2, hro, _, rfl, y, true, r, 1, rfl, by decide, hd2, hro, by show 2 ≤ sizeLine; decide, fun t ht => ?_⟩
      exact hq _ _ (same_new ht) (Dp.tupI (is := [_, _]) (SqT.of upd_same))
    · rintro H4 ys4 s4 eD4 hall4
      have ex4 := s4 _ _ ex3
      refine ⟨_, rfl, x, C, dx, _, rfl, ex4, G.I.cl, G.nP, by show 1 < 1000; decide, ?_⟩
      have hP4 : Dp K H4 (.ref D2) (pParts rs) := .lst (SqL.of eD4) hall4
      have b5 : Bu x H4 (upd H4 x (.ins C dx [("own_rounds", .ref D), ("own_parts", .ref D2)])) := Bu.set
      have hP5 := Dp.ins' b5 ex4 _ _ hP4
      have hs5 := Bu.insT b5 ex4 (Same.tup s4 hs3)
      have bb5 := bb.trans ((Bu.of s4 x).trans b5)
      have b25 := b3.trans ((Bu.of s4 x).trans b5)
      have hall5 := DpAll.ins' b5 ex4 _ _ hall4
      have nxD2 : D2 ≠ x := fun z => by rw [z, ex3] at hD2; cases hD2
      have eD5 := b5 _ _ nxD2 eD4
      show tSeq _ _ _ _ (upd H4 x (.ins C dx [("own_rounds", .ref D), ("own_parts", .ref D2)]))
      have ex5 : upd H4 x (.ins C dx [("own_rounds", .ref D), ("own_parts", .ref D2)]) x = some (.ins C dx [("own_rounds", .ref D), ("own_parts", .ref D2)]) := upd_same
      generalize upd H4 x (.ins C dx [("own_rounds", .ref D), ("own_parts", .ref D2)]) = H5 at *
      refine ⟨_, rfl, x, dx, _, rfl, ex5, rfl, _, rfl, a, xs, rfl, .inr hs5, x, dx, _, .ref D2, rs, xs.length, rfl, by omega, ex5, rfl, hP5, hok, fun t H6 s6 et => ?_⟩
      refine ⟨t, _, rfl, SqT.of et, rfl, _, _, rfl, _, _, rfl, rfl, ?_⟩
      have bal := hok.bal
      rw [lrs, ← hlen] at bal
      refine ⟨_, rfl, _, rfl, rfl, _, rfl, ?_⟩
      rw [show (!decide (V.int (Pm.cnt rs 0 xs.length) = V.int (Pm.cnt rs 1 xs.length))) = false by rw [bal]; simp]
      refine iteF ?_
      have ex6 := s6 _ _ ex5
      refine ⟨_, rfl, _, rfl, x, C, dx, _, rfl, ex6, G.I.cl, G.nG, by show 2 < 1000; decide, ?_⟩
      have b7 : Bu x H6 (upd H6 x (.ins C dx (plF (.ref D) (.ref D2) (Pm.cnt rs 0 xs.length)))) := Bu.set
      have b27 := b25.trans ((Bu.of s6 x).trans b7)
      refine q _ (bb5.trans ((Bu.of s6 x).trans b7)) fun av hav => ?_
      have old : ∀ {y : Addr}, y ∈ av → H2 y ≠ none ∨ y = x := fun {y} hy => by
        cases h : H y with
        | none => exact absurd h (hav y hy)
        | some o =>
          refine .inl fun z => ?_
          rw [s2 _ _ (s1 _ _ h)] at z
          cases z
      have nDx : D ≠ x := fun z => by rw [z, s1 _ _ ex] at nD; cases nD
      rw [ers]
      refine ⟨⟨x, dx, D, D2, qs, ys4, rfl, ?_, ⟨b27 _ _ nDx hrows.at_, hrows.len, fun j q r h1 h2 => ?_⟩, fun z => ?_, fun q hq z => ?_, ?_, fun z => ?_, DpAll.ins' b7 ex6 _ _ (hall5.up s6)⟩, hok⟩
      · rw [lrs, ← hlen]
        exact upd_same
      · obtain ⟨zs, e, d⟩ := hrows.row j q r h1 h2
        exact ⟨zs, b27 _ _ (fun z => by rw [z, ex2] at e; cases e) e, DpAll.ins' b27 ex2 _ _ d⟩
      · cases h : H D with
        | none => exact hav D z h
        | some o => rw [s1 _ _ h] at nD; cases nD
      · have := hqs q hq
        cases h : H q with
        | none => exact hav q z h
        | some o => rw [s1 _ _ h] at this; cases this
      · exact b7 _ _ nxD2 (s6 _ _ eD5)
      · cases h : H D2 with
        | none => exact hav D2 z h
        | some o =>
          have h3 := b3 _ _ nxD2 (s2 _ _ (s1 _ _ h))
          rw [h3] at hD2
          cases hD2
def spMk2 (K : PySem.W.Frag) (C : Addr) : Sp := fun vs H Q E => ∃ ws rest, vs = ws ++ rest ∧ ws.length = 1 ∧ rest.length ≤ sizeLine ∧ ∀ p, H p = Option.none → sp_init2 K C (ws ++ [V.ref p]) (upd H p (.tup rest)) Q E
theorem mk_plan2 {H : Hp} {vs : List V} {brs : List (Bool × List Pm.Cut)} {Q : VK} (ha : DpAll K H vs (pPass brs)) (ok : Pm.RdsOk (brs.map Prod.snd)) (q : ∀ u H', Same H H' → (∀ av : List Addr, (∀ q ∈ av, H q ≠ none) → PlanN K C H' av u (brs.map Prod.snd)) → Q u H') : MkR1 C (spMk2 K C) E0 Q vs H := by
  intro x dx hx hdx hne
  have hlen : vs.length ≤ 3 := by
    have := ok.2.1
    rw [ha.len]
    simpa [pPass] using this
  refine ⟨[.ref x], vs, rfl, rfl, by unfold sizeLine; omega, fun p hp => ?_⟩
  have s1 : Same H (upd (upd H dx (.own x)) x (.ins C dx [])) := same_make hx hdx hne
  have s2 : ∀ o, Same H (upd (upd (upd H dx (.own x)) x (.ins C dx [])) p o) := fun o => s1.trans (same_new hp)
  have hpx : x ≠ p := fun z => by rw [← z, upd_same] at hp; cases hp
  refine ⟨x, dx, .ref p, brs, rfl, by rw [upd_ne hpx, upd_same], .tup (SqT.of upd_same) (ha.up (s2 _)), ok, fun H' b pa => ⟨rfl, q _ _ (fun c o e => ?_) fun av hav => pa av fun y hy z => ?_⟩⟩
  · exact b c o (fun z => by rw [z, hx] at e; cases e) (s2 _ c o e)
  · cases h : H y with
    | none => exact hav y hy h
    | some o => rw [s2 _ _ _ h] at z; cases z
def sp_lplan2 (K : PySem.W.Frag) (C : Addr) : Sp := fun vs H Q _ => ∃ (v : V) (brs : List (Bool × List Pm.Cut)), vs = [v] ∧ Dp K H v (.list (pPass brs)) ∧ Pm.RdsOk (brs.map Prod.snd) ∧ ∀ u H', Same H H' → (∀ av : List Addr, (∀ q ∈ av, H q ≠ none) → PlanN K C H' av u (brs.map Prod.snd)) → Q u H'
theorem c_lplan2 {K : PySem.W.Frag} {C : Addr} {v : V} {brs : List (Bool × List Pm.Cut)} {H : Hp} {Q : VK} {E : XK} (h0 : Dp K H v (.list (pPass brs))) (h1 : Pm.RdsOk (brs.map Prod.snd)) (q : ∀ u H', Same H H' → (∀ av : List Addr, (∀ q ∈ av, H q ≠ none) → PlanN K C H' av u (brs.map Prod.snd)) → Q u H') : sp_lplan2 K C [v] H Q E := ⟨_, _, rfl, h0, h1, q⟩
local macro_rules | `(tactic| tb_rel) => `(tactic| repeat (first
  | with_reducible assumption
  | with_reducible exact Dp.int _
  | with_reducible exact Dp.str _
  | with_reducible exact Dp.bl _
  | with_reducible exact Dp.non
  | (with_reducible apply SqT.of; with_reducible assumption)
  | (with_reducible apply SqL.of; with_reducible assumption)
  | (with_reducible apply up_dp; with_reducible assumption)
  | (with_reducible apply up_sqt; with_reducible assumption)
  | (with_reducible apply up_sql; with_reducible assumption)
  | (with_reducible apply up_get; with_reducible assumption)
  | (with_reducible apply up_pot; with_reducible assumption)
  | with_reducible exact Same.refl _
  | with_reducible exact Bu.refl _ _
  | (with_reducible apply up_same; with_reducible assumption)
  | (with_reducible apply up_bu; with_reducible assumption)
  | (with_reducible apply bu_bu; with_reducible assumption)
  | (with_reducible apply free_of; with_reducible assumption)
  | (with_reducible apply mi_fr; with_reducible assumption; (focus (tb_rel; done)))
  | (with_reducible apply mi_dp; with_reducible assumption)
  | (with_reducible apply mi_sqt; with_reducible assumption)
  | (with_reducible apply mi_sql; with_reducible assumption)
  | (with_reducible apply mi_gett; with_reducible assumption)
  | (with_reducible apply mi_getl; with_reducible assumption)
  | (with_reducible apply mi_pot; with_reducible assumption)
  | (with_reducible apply mi_refl; with_reducible assumption; (focus (with_unfolding_all exact rfl)))
  | (with_reducible apply up_mi; with_reducible assumption)
  | (with_reducible apply mi_mi; with_reducible assumption)
  | (with_reducible apply mi_bu; with_reducible assumption)
  | (with_reducible apply up_plan; with_reducible assumption)
  | (with_reducible apply bu_plan; with_reducible assumption; (focus (tb_rel; done)))
  | (with_reducible apply mi_plan; with_reducible assumption; (focus (lcg_src; done)))
  | (with_reducible apply up_bd; with_reducible assumption)
  | (with_reducible apply bd_bd; with_reducible assumption)
  | (with_reducible apply bd_same; with_reducible assumption; (focus (tb_rel; done)))
  | (with_reducible apply bd_bup; with_reducible assumption; (focus (tb_rel; done)))
  | (with_reducible apply bu_getd; with_reducible assumption; (focus (tb_rel; done)))
  | (with_reducible apply bd_dp; with_reducible assumption)
  | (with_reducible apply bd_sqt; with_reducible assumption)
  | (with_reducible apply bd_sql; with_reducible assumption)
  | (with_reducible apply bd_gett; with_reducible assumption)
  | (with_reducible apply bd_getl; with_reducible assumption)
  | (with_reducible apply bd_geti; with_reducible assumption)
  | (with_reducible apply bd_pot; with_reducible assumption)
  | (with_reducible apply pf_dp; with_reducible assumption; (focus (tb_rel; done)); (focus (lcg_src; done)))
  | (with_reducible apply bu_gett; with_reducible assumption; (focus (tb_rel; done)))
  | (with_reducible apply bu_geti; with_reducible assumption; (focus (tb_rel; done)))
  | (with_reducible apply bu_get; with_reducible assumption; (focus (tlg_ne; done)))
  | (with_reducible apply bu_sqt; with_reducible assumption; (focus (tb_rel; done)))
  | (with_reducible apply bu_sql; with_reducible assumption; (focus (tlg_ne; done)))
  | (with_reducible apply bu_dp; with_reducible assumption; (focus (tb_rel; done)); (focus (lcg_src; done)))
  | fail "up"))
local macro_rules | `(tactic| tlg_ne) => `(tactic| first
  | with_reducible assumption
  | (with_reducible apply pot_ne; with_reducible assumption; (focus (tb_rel; done)))
  | fail "ne")
local macro_rules | `(tactic| lcg_src) => `(tactic| first
  | with_reducible assumption
  | with_unfolding_all exact rfl
  | with_unfolding_all decide
  | with_unfolding_all exact Nat.ne_of_beq_eq_false rfl
  | (apply_assumption; done)
  | omega
  | (simp; done)
  | (simp; omega)
  | fail "sd")
local macro_rules | `(tactic| lcg_sub) => `(tactic| first
  | (unfold sizeLine; omega)
  | (simp only [List.length_cons, List.length_nil, List.length_append, List.length_map, List.length_replicate, List.length_take, List.length_drop]; unfold sizeLine; omega)
  | (simp; unfold sizeLine; omega)
  | fail "sz")
local macro_rules | `(tactic| nest_cls) => `(tactic| first
  | (tb_rel; done)
  | (with_reducible apply nmI; (focus (tb_rel; done)))
  | (with_reducible apply d_tup; (focus (tb_rel; done)); (focus (lsm_bools; done)))
  | (with_reducible apply d_lst; (focus (tb_rel; done)); (focus (lsm_bools; done)))
  | fail "dp")
local macro_rules | `(tactic| lsm_bools) => `(tactic| repeat (first
  | with_reducible exact DpAll.nil
  | with_reducible assumption
  | (with_reducible apply DpAll.cons; (focus (nest_cls; done)))
  | fail "dpa"))
local macro_rules | `(tactic| none_booked) => `(tactic| first | with_unfolding_all exact rfl | (with_reducible apply atI_nat; with_reducible assumption) | fail "ix")
local macro_rules | `(tactic| walk_at "go") => `(tactic| repeat (first
  | (focus (with_reducible refine go_var (v := ?_) ?_ ?_; rotate_left; (focus (with_unfolding_all exact rfl))))
  | with_reducible refine go_seq ?_
  | with_reducible refine go_cN ?_
  | with_reducible refine go_c ?_
  | with_reducible refine go_op ?_
  | with_reducible refine go_nil ?_
  | with_reducible refine go_cons ?_
  | with_reducible refine go_cb ?_
  | with_reducible refine go_call0 ?_
  | with_reducible refine go_asg ?_
  | (focus (with_reducible refine go_gname (σ' := ?_) ?_ ?_; rotate_left; (focus (simp only [List.set_cons_succ, List.set_cons_zero]; exact rfl))))
  | with_reducible refine go_par ?_
  | with_reducible refine go_par3 ?_
  | (focus (with_reducible refine go_par3k (σ' := ?_) ?_ ?_; rotate_left; (focus (simp only [List.set_cons_succ, List.set_cons_zero]; exact rfl))))
  | with_reducible refine go_bm ?_
  | (with_reducible apply go_bmL; (focus (tb_rel; done)))
  | (with_reducible apply go_fdX; (focus (with_reducible assumption; done)))
  | (with_reducible apply go_rI; (focus (with_reducible assumption; done)))
  | (focus (with_reducible refine go_par2 (σ' := ?_) ?_ ?_; rotate_left; (focus (simp only [List.set_cons_succ, List.set_cons_zero]; exact rfl))))
  | with_reducible refine go_ifs ?_
  | with_reducible refine go_test ?_
  | with_reducible refine go_tb ?_
  | with_reducible refine go_asb ?_
  | with_reducible refine go_asi ?_
  | with_reducible refine go_ret ?_
  | with_reducible refine go_retn ?_
  | with_reducible refine go_drop ?_
  | with_reducible refine go_next ?_
  | with_reducible refine go_and ?_
  | with_reducible refine go_or ?_
  | with_reducible refine go_not ?_
  | with_reducible refine go_andv ?_
  | with_reducible refine go_orv ?_
  | with_reducible refine go_notv ?_
  | with_reducible refine go_ife ?_
  | with_reducible refine go_chain ?_
  | with_reducible refine go_if1 ?_
  | with_reducible refine go_if0 ?_
  | with_reducible refine go_ifn1 ?_
  | with_reducible refine go_ifn0 ?_
  | (with_reducible apply go_ift; (focus (first | with_reducible rfl | with_reducible assumption | omega)))
  | (with_reducible apply go_ifnt; (focus (first | with_reducible rfl | with_reducible assumption | omega)))
  | (with_reducible apply go_iff; (focus (first | with_reducible assumption | omega)))
  | (with_reducible apply go_ifnf; (focus (first | with_reducible assumption | omega)))
  | with_reducible refine go_un ?_
  | with_reducible refine go_tup ?_
  | with_reducible refine go_lst ?_
  | (with_reducible apply go_newt; (focus (lcg_sub; done)); intros)
  | (with_reducible apply go_newl; (focus (lcg_sub; done)); intros)
  | with_reducible refine go_meth ?_
  | with_reducible refine go_for ?_
  | with_reducible refine go_lc ?_
  | with_reducible refine go_irng1 ?_
  | with_reducible refine go_irng2 ?_
  | with_reducible refine go_ilist ?_
  | with_reducible refine go_itup ?_
  | with_reducible refine go_izip ?_
  | with_reducible refine go_ienum ?_
  | (with_reducible apply go_rg1; (focus (lcg_src; done)))
  | (with_reducible apply go_rg2; (focus (lcg_src; done)); (focus (lcg_src; done)))
  | (with_reducible apply go_lsr; (focus (tb_rel; done)))
  | (with_reducible apply go_tpr; (focus (tb_rel; done)))
  | (with_reducible apply go_zpr; (focus (tb_rel; done)); (focus (tb_rel; done)))
  | (with_reducible apply go_zprT; (focus (tb_rel; done)); (focus (tb_rel; done)))
  | (with_reducible apply go_enrL; (focus (tb_rel; done)))
  | (with_reducible apply go_enrT; (focus (tb_rel; done)))
  | with_reducible refine go_prop ?_
  | with_reducible refine go_knr0 ?_
  | (with_reducible apply go_knr; (focus (with_unfolding_all exact rfl; done)); (focus (simp only [kSw2, kRev3, kId, List.nil_append, List.cons_append]; exact rfl)))
  | with_reducible refine go_mkn ?_
  | (with_reducible apply go_mkr; (focus (tb_rel; done)); (focus (with_unfolding_all exact rfl; done)))
  | with_reducible refine go_fld ?_
  | (with_reducible apply go_flr; (focus (tb_rel; done)); (focus (with_reducible assumption; done)); (focus (with_reducible assumption; done)); (focus (with_unfolding_all exact rfl; done)))
  | (with_reducible apply go_prr; (focus (tb_rel; done)))
  | (with_reducible apply go_mer; (focus (tb_rel; done)); (focus (with_unfolding_all exact rfl; done)))
  | with_reducible refine go_sfld ?_
  | (with_reducible apply go_sfr; (focus (tb_rel; done)); (focus (with_reducible assumption; done)); (focus (with_reducible assumption; done)); (focus (with_unfolding_all exact Nat.le_of_ble_eq_true rfl; done)); (focus (with_unfolding_all exact rfl; done)); intros)
  | with_reducible refine go_revt ?_
  | with_reducible refine go_make0 ?_
  | (focus (with_reducible refine go_aug (x := ?_) ?_ ?_; rotate_left; (focus (with_unfolding_all exact rfl))))
  | (focus (with_reducible refine go_augk (σ' := ?_) ?_ ?_; rotate_left; (focus (simp only [List.set_cons_succ, List.set_cons_zero]; exact rfl))))
  | with_reducible refine go_min2 ?_
  | with_reducible refine go_int1 ?_
  | with_reducible refine go_max2 ?_
  | with_reducible refine go_intB ?_
  | with_reducible refine go_absN ?_
  | with_reducible refine go_isN ?_
  | with_reducible refine go_notN ?_
  | (with_reducible apply go_rvt; (focus (tb_rel; done)); (focus (simp only [List.reverse_cons, List.reverse_nil, List.nil_append, List.cons_append]; exact rfl)); intros)
  | (with_reducible apply go_reprNm; (focus (tb_rel; done)); (focus (with_reducible assumption; done)))
  | (with_reducible apply go_reprPr; (focus (nest_cls; done)); (focus (lcg_src; done)); (focus (lcg_src; done)))
  | with_reducible refine go_sl ?_
  | with_reducible refine go_part ?_
  | with_reducible refine go_nopart ?_
  | (with_reducible apply go_gtup; (focus (tb_rel; done)); (focus (with_unfolding_all exact rfl; done)))
  | (with_reducible apply go_gunl; (focus (tb_rel; done)); (focus (with_unfolding_all exact rfl; done)))
  | with_reducible refine go_gcons ?_
  | with_reducible refine go_gnil ?_
  | with_reducible refine go_addN ?_
  | with_reducible refine go_ltN ?_
  | with_reducible refine go_leN ?_
  | with_reducible refine go_gtN ?_
  | with_reducible refine go_geN ?_
  | (with_reducible apply go_subN; (focus (omega; done)))
  | with_reducible refine go_rI0 ?_
  | (with_reducible apply go_mulN; (focus (omega; done)))
  | (with_reducible apply go_modN; (focus (omega; done)))
  | (with_reducible apply go_divN; (focus (omega; done)))
  | (with_reducible apply go_powN; (focus (with_unfolding_all decide; done)))
  | with_reducible refine go_rU ?_
  | with_reducible refine go_eqN ?_
  | with_reducible refine go_neN ?_
  | with_reducible refine go_isB ?_
  | with_reducible refine go_notB ?_
  | with_reducible refine go_eqS ?_
  | with_reducible refine go_neS ?_
  | with_reducible refine go_eqB ?_
  | with_reducible refine go_eqI ?_
  | with_reducible refine go_neI ?_
  | (with_reducible apply go_ixt; (focus (tb_rel; done)); (focus (none_booked; done)))
  | (with_reducible apply go_ixl; (focus (tb_rel; done)); (focus (none_booked; done)))
  | (with_reducible apply go_lent; (focus (tb_rel; done)))
  | (with_reducible apply go_lenNm; (focus (tb_rel; done)))
  | (with_reducible apply go_isiNm; (focus (tb_rel; done)))
  | (with_reducible apply go_lenl; (focus (tb_rel; done)))
  | (with_reducible apply go_catA; (focus (tb_rel; done)); (focus (tb_rel; done)); (focus (lcg_sub; done)); intros)
  | (with_reducible apply go_slaT; (focus (tb_rel; done)); intros)
  | (with_reducible apply go_slaD; (focus (tb_rel; done)); intros)
  | (with_reducible apply go_rep; (focus (tb_rel; done)); (focus (lcg_src; done)); intros)
  | (with_reducible apply go_tupofl; (focus (tb_rel; done)); intros)
  | (with_reducible apply go_sllT; (focus (tb_rel; done)); intros)
  | (with_reducible apply go_sllD; (focus (tb_rel; done)); intros)
  | (with_reducible apply go_cat; (focus (tb_rel; done)); (focus (tb_rel; done)); (focus (lcg_sub; done)); intros)
  | (with_reducible apply go_eqP; with_reducible assumption; (focus (tb_rel; done)); (focus (tb_rel; done)))
  | (with_reducible apply go_neP; with_reducible assumption; (focus (tb_rel; done)); (focus (tb_rel; done)))
  | (with_reducible apply go_mep; (focus (tb_rel; done)); (focus decide); (focus decide); (focus decide))
  | (with_reducible apply c_along1; (focus (lcg_src; done)); (focus (nest_cls; done)); (focus (lcg_src; done)); intros)
  | (with_reducible apply c_init2; (focus (tb_rel; done)); (focus (nest_cls; done)); (focus (lcg_src; done)); intros)
  | (with_reducible apply c_lplan2; (focus (nest_cls; done)); (focus (lcg_src; done)); intros)
  | (with_reducible apply c_prod; (focus (lcg_src; done)); (focus (tb_rel; done)); (focus (lcg_src; done)); (focus (nest_cls; done)); (focus (lcg_src; done)); intros)
  | (with_reducible apply c_wantrounds; (focus (nest_cls; done)); (focus (lcg_src; done)); intros)
  | with_reducible refine go_dget ?_
  | with_reducible refine go_dgr2 ?_
  | with_reducible refine go_dput ?_
  | with_reducible refine go_dpr2 ?_
  | with_reducible refine go_dpt ?_
  | with_reducible refine go_pnil ?_
  | with_reducible refine go_pcons ?_
  | with_reducible refine go_gsub ?_
  | with_reducible refine go_sir ?_
  | with_reducible refine go_lrg ?_
  | with_reducible refine go_rgt2 ?_
  | with_reducible refine go_rge ?_
  | with_reducible refine go_revl ?_
  | (with_reducible apply go_dgk; (focus (tb_rel; done)); with_reducible assumption)
  | (with_reducible apply go_dpk; (focus (tb_rel; done)); (focus (lcg_sub; done)); intros)
  | (with_reducible apply go_disp; intros)
  | (with_reducible apply go_dsk2; (focus (tb_rel; done)); intros)
  | (with_reducible apply go_lrr; (focus (omega; done)); (focus (omega; done)); intros)
  | (with_reducible apply go_rvl; (focus (tb_rel; done)); intros)
  | with_reducible refine go_cv ?_
  | with_reducible refine go_cvr ?_
  | with_reducible refine go_mkr1 ?_
  | with_reducible refine go_cma ?_
  | with_reducible refine go_cmk ?_
  | with_reducible refine go_cmr ?_
  | with_reducible refine go_ckr ?_
  | (with_reducible apply go_mkL; (focus (with_unfolding_all exact rfl)))
  | (with_reducible apply go_cmv; (focus (with_unfolding_all exact rfl)); (focus (simp only [gApp, kId, List.nil_append, List.cons_append, List.append_nil]; exact rfl)))
  | (with_reducible apply go_ckv; (focus (with_unfolding_all exact rfl)); (focus (simp only [gApp, kId, List.nil_append, List.cons_append, List.append_nil]; exact rfl)))
  | fail "go"))
theorem ok_lplan2 {f : Addr} {fd : FuncData} (F : Df K "_law_plan" "_law_plan" s_lplan2 [] f fd) (B : Blt mg) (cPl : MaR P w K mg base 6 "Plan" C (spMk2 K C)) : FnOk P w K mg base CX0 8 f fd ["_law_rows"] (sp_lplan2 K C) := by
  refine dfOk F sc_lplan2 (fun vs H Q E h => ?_) (fun cdv A outer s H vs Q E hr h => ?_)
  · obtain ⟨v, brs, rfl, _⟩ := h
    rfl
  · obtain ⟨v, brs, rfl, hd, ok, q⟩ := h
    obtain ⟨a, ys, rfl, hs, ha⟩ := hd.lstE
    have hyl : ys.length = (brs.map Prod.snd).length := by rw [ha.len, List.length_map]; unfold pPass; rw [List.length_map]
    have l1 := ok.1
    have l3 := ok.2.1
    have mk : ∀ vs, vs = ys → MkR1 C (spMk2 K C) E0 Q vs H := fun vs e => mk_plan2 (e ▸ ha) ok fun u H' s' pa => q u H' s' pa
    refine ⟨_, (pss_cons (ps_if (pt_cmpR op_eq (pe_callB call_len_seq' (by rfl) B.len bt_len (pa_cons (pv 0) pa_nil)) pe_int (nomark _))
  (pss_one (ps_ret (pe_mar cPl hr (by decide) (by rfl) (pa_cons (pe_ix ix_list' (pv 0) pe_int (fun _ _ => rfl)) pa_nil))))
  pss_nil)
  (pss_one (ps_ret (pe_ifExp (pt_cmpR op_eq (pe_callB call_len_seq' (by rfl) B.len bt_len (pa_cons (pv 0) pa_nil)) pe_int (nomark _)) (pe_mar cPl hr (by decide) (by rfl) (pa_cons (pe_ix ix_list' (pv 0) pe_int (fun _ _ => rfl)) (pa_cons (pe_ix ix_list' (pv 0) pe_int (fun _ _ => rfl)) pa_nil))) (pe_mar cPl hr (by decide) (by rfl) (pa_cons (pe_ix ix_list' (pv 0) pe_int (fun _ _ => rfl)) (pa_cons (pe_ix ix_list' (pv 0) pe_int (fun _ _ => rfl)) (pa_cons (pe_ix ix_list' (pv 0) pe_int (fun _ _ => rfl)) pa_nil)))))))), ?_⟩
    refine go_start (σ := [some _]) rfl ?_
    walk_at "go"
    match ys, hyl, mk, hs with
    | [], hyl, _, _ =>
      rw [← hyl] at l1
      exact absurd l1 (by decide)
    | [x0], _, mk, hs =>
      have h1 : [x0].length = 1 := rfl
      walk_at "go"
      exact mk _ rfl
    | [x0, x1], _, mk, hs =>
      have h1 : ¬ [x0, x1].length = 1 := fun z => by cases z
      have h2 : [x0, x1].length = 2 := rfl
      walk_at "go"
      exact mk _ rfl
    | [x0, x1, x2], _, mk, hs =>
      have h1 : ¬ [x0, x1, x2].length = 1 := fun z => by cases z
      have h2 : ¬ [x0, x1, x2].length = 2 := fun z => by cases z
      walk_at "go"
      exact mk _ rfl
    | _ :: _ :: _ :: _ :: _, hyl, _, _ =>
      rw [← hyl] at l3
      exact absurd l3 (by simp)
end
end T
set_option Elab.async false
set_option maxRecDepth 100000
set_option maxHeartbeats 4000000
namespace T
open PySem L2 Mv
abbrev s_right : Stmt := top 52
theorem sc_right : FnScope ["_law_pot_here", "_law_rows", "_law_passed", "_law_row", "_law_made", "_law_turn"] ["_law_pot_here"] (defScope s_right) := ⟨rfl, rfl, rfl, by decide +kernel, rfl, by decide +kernel, by decide +kernel⟩
section
variable {P : Program} {w : World} {K : PySem.W.Frag} {mg : Str → Option Value} {base : Heap} {C AX : Addr}
theorem pf_sql {H H' : Hp} {p a : Addr} {xs : List V} (b : Bu p H H') (hp : Pot H p) (hx : ∀ x y : Int, xs ≠ [.int x, .int y]) (h : SqL K H a xs) : SqL K H' a xs := by
  obtain ⟨x, y, e, _⟩ := hp.ex
  have ne : ∀ {o : HO}, H a = some o → o ≠ .lst [.int x, .int y] → a ≠ p := fun h1 h2 z => by
    rw [z, e] at h1
    exact h2 (Option.some.inj h1).symm
  rcases h with (h | ⟨o, h⟩) | h
  · exact .inl (.inl (b a _ (ne h (fun z => by cases z; exact hx x y rfl)) h))
  · exact .inl (.inr ⟨o, b a _ (ne h (fun z => by cases z)) h⟩)
  · exact .inr h
theorem pf_pts (rs : List (List Pm.Cut)) : PF (pParts rs) = true := by
  refine PF.list ?_ fun d hd => ?_
  · match rs with
    | [] => rfl
    | [_] => rfl
    | [_, _] => rfl
    | _ :: _ :: _ :: _ => rfl
  · obtain ⟨r, _, rfl⟩ := List.mem_map.mp hd
    rfl
theorem plan_bu {H H' : Hp} {p : Addr} {v : V} {rs : List (List Pm.Cut)} (b : Bu p H H') (hp : Pot H p) (h : PlanAt K C H v rs) : PlanAt K C H' v rs := by
  obtain ⟨a, dx, R, Pt, e, ea, hR, hP⟩ := h.ex
  obtain ⟨x, y, ep, _⟩ := hp.ex
  exact ⟨⟨a, dx, R, Pt, e, b _ _ (fun z => by rw [z, ep] at ea; cases ea) ea, pf_dp b hp (pf_rds rs) hR, pf_dp b hp (pf_pts rs) hP⟩, h.ok⟩
theorem fr_bu {H H' : Hp} {p l : Addr} (b : Bu p H H') (hp : Pot H' p) (n : H' l = none) : H l = none := by
  cases h : H l with
  | none => rfl
  | some o =>
    rw [b _ _ (hp.ne n) h] at n
    cases n
theorem bu_over {H0 H : Hp} {p q : Addr} {o : HO} (b : Bu p H0 H) (n : H0 q = none) : Bu p H0 (upd H q o) := fun c u nc e => by
  rw [upd_ne (ne_of_none e n)]
  exact b c u nc e
theorem brs_of : ∀ (rs : List (List Pm.Cut)) (es : List (Bool × List PyData)), es.length = rs.length → (∀ (i : Nat) e, es[i]? = some e → ∃ r, rs[i]? = some r ∧ e.2 = r.map pCut) → ∃ brs : List (Bool × List Pm.Cut), brs.map Prod.snd = rs ∧ es = brs.map fun b => (b.1, b.2.map pCut)
  | [], [], _, _ => ⟨[], rfl, rfl⟩
  | [], _ :: _, h, _ => by cases h
  | _ :: _, [], h, _ => by cases h
  | r :: rs, e :: es, hl, hh => by
    obtain ⟨r0, h1, h2⟩ := hh 0 e rfl
    obtain rfl : r = r0 := Option.some.inj h1
    obtain ⟨brs, h3, h4⟩ := brs_of rs es (Nat.succ.inj hl) fun i e h => by
      obtain ⟨x, y, z⟩ := hh (i + 1) e (by simpa using h)
      exact ⟨x, by simpa using y, z⟩
    exact ⟨(e.1, r) :: brs, by rw [List.map_cons, h3], by rw [List.map_cons, ← h4, ← h2]⟩
theorem sq_dp {H : Hp} {q : Addr} {b : Bool} {zs : List V} {ds : List PyData} (e : H q = some (sqO b zs)) (h : DpAll K H zs ds) : Dp K H (.ref q) (dSeq b ds) := by
  cases b with
  | true => exact .lst (SqL.of e) h
  | false => exact .tup (SqT.of e) h
theorem mix_all {H : Hp} : ∀ (qs : List Addr) (es : List (Bool × List PyData)), qs.length = es.length → (∀ (i : Nat) q e, qs[i]? = some q → es[i]? = some e → ∃ zs, H q = some (sqO e.1 zs) ∧ DpAll K H zs e.2) → DpAll K H (qs.map V.ref) (es.map fun e => dSeq e.1 e.2)
  | [], [], _, _ => .nil
  | [], _ :: _, h, _ => by cases h
  | _ :: _, [], h, _ => by cases h
  | q :: qs, e :: es, hl, hh => by
    obtain ⟨zs, h1, h2⟩ := hh 0 q e rfl rfl
    exact .cons (sq_dp h1 h2) (mix_all qs es (Nat.succ.inj hl) fun i q' e' h3 h4 => hh (i + 1) q' e' (by simpa using h3) (by simpa using h4))
def sp_right : Sp := fun vs H Q _ => ∃ (p : Addr), vs = [.ref p] ∧ Pot H p ∧ ∀ H', Pot H' p → Bu p H H' → Q (.bl true) H'
theorem c_right {p : Addr} {H : Hp} {Q : VK} {E : XK} (h0 : Pot H p) (q : ∀ H', Pot H' p → Bu p H H' → Q (.bl true) H') : sp_right  [.ref p] H Q E := ⟨_, rfl, h0, q⟩
local macro_rules | `(tactic| tb_rel) => `(tactic| repeat (first
  | with_reducible assumption
  | with_reducible exact Dp.int _
  | with_reducible exact Dp.str _
  | with_reducible exact Dp.bl _
  | with_reducible exact Dp.non
  | (with_reducible apply SqT.of; with_reducible assumption)
  | (with_reducible apply SqL.of; with_reducible assumption)
  | (with_reducible apply up_dp; with_reducible assumption)
  | (with_reducible apply up_sqt; with_reducible assumption)
  | (with_reducible apply up_sql; with_reducible assumption)
  | (with_reducible apply up_get; with_reducible assumption)
  | (with_reducible apply up_pot; with_reducible assumption)
  | with_reducible exact Same.refl _
  | with_reducible exact Bu.refl _ _
  | (with_reducible apply up_same; with_reducible assumption)
  | (with_reducible apply up_bu; with_reducible assumption)
  | (with_reducible apply bu_bu; with_reducible assumption)
  | (with_reducible apply free_of; with_reducible assumption)
  | (with_reducible apply mi_fr; with_reducible assumption; (focus (tb_rel; done)))
  | (with_reducible apply mi_dp; with_reducible assumption)
  | (with_reducible apply mi_sqt; with_reducible assumption)
  | (with_reducible apply mi_sql; with_reducible assumption)
  | (with_reducible apply mi_gett; with_reducible assumption)
  | (with_reducible apply mi_getl; with_reducible assumption)
  | (with_reducible apply mi_pot; with_reducible assumption)
  | (with_reducible apply mi_refl; with_reducible assumption; (focus (with_unfolding_all exact rfl)))
  | (with_reducible apply up_mi; with_reducible assumption)
  | (with_reducible apply mi_mi; with_reducible assumption)
  | (with_reducible apply mi_bu; with_reducible assumption)
  | (with_reducible apply up_plan; with_reducible assumption)
  | (with_reducible apply bu_plan; with_reducible assumption; (focus (tb_rel; done)))
  | (with_reducible apply mi_plan; with_reducible assumption; (focus (lcg_src; done)))
  | (with_reducible apply up_bd; with_reducible assumption)
  | (with_reducible apply bd_bd; with_reducible assumption)
  | (with_reducible apply bd_same; with_reducible assumption; (focus (tb_rel; done)))
  | (with_reducible apply bd_bup; with_reducible assumption; (focus (tb_rel; done)))
  | (with_reducible apply bu_getd; with_reducible assumption; (focus (tb_rel; done)))
  | (with_reducible apply bd_dp; with_reducible assumption)
  | (with_reducible apply bd_sqt; with_reducible assumption)
  | (with_reducible apply bd_sql; with_reducible assumption)
  | (with_reducible apply bd_gett; with_reducible assumption)
  | (with_reducible apply bd_getl; with_reducible assumption)
  | (with_reducible apply bd_geti; with_reducible assumption)
  | (with_reducible apply bd_pot; with_reducible assumption)
  | (with_reducible apply pf_dp; with_reducible assumption; (focus (tb_rel; done)); (focus (lcg_src; done)))
  | (with_reducible apply bu_gett; with_reducible assumption; (focus (tb_rel; done)))
  | (with_reducible apply bu_geti; with_reducible assumption; (focus (tb_rel; done)))
  | (with_reducible apply bu_get; with_reducible assumption; (focus (tlg_ne; done)))
  | (with_reducible apply bu_sqt; with_reducible assumption; (focus (tb_rel; done)))
  | (with_reducible apply bu_sql; with_reducible assumption; (focus (tlg_ne; done)))
  | (with_reducible apply bu_dp; with_reducible assumption; (focus (tb_rel; done)); (focus (lcg_src; done)))
  | fail "up"))
local macro_rules | `(tactic| tlg_ne) => `(tactic| first
  | with_reducible assumption
  | (with_reducible apply pot_ne; with_reducible assumption; (focus (tb_rel; done)))
  | fail "ne")
local macro_rules | `(tactic| lcg_src) => `(tactic| first
  | with_reducible assumption
  | with_unfolding_all exact rfl
  | with_unfolding_all decide
  | with_unfolding_all exact Nat.ne_of_beq_eq_false rfl
  | (apply_assumption; done)
  | omega
  | (simp; done)
  | (simp; omega)
  | fail "sd")
local macro_rules | `(tactic| lcg_sub) => `(tactic| first
  | (unfold sizeLine; omega)
  | (simp only [List.length_cons, List.length_nil, List.length_append, List.length_map, List.length_replicate, List.length_take, List.length_drop]; unfold sizeLine; omega)
  | (simp; unfold sizeLine; omega)
  | fail "sz")
local macro_rules | `(tactic| nest_cls) => `(tactic| first
  | (tb_rel; done)
  | (with_reducible apply nmI; (focus (tb_rel; done)))
  | (with_reducible apply d_tup; (focus (tb_rel; done)); (focus (lsm_bools; done)))
  | (with_reducible apply d_lst; (focus (tb_rel; done)); (focus (lsm_bools; done)))
  | fail "dp")
local macro_rules | `(tactic| lsm_bools) => `(tactic| repeat (first
  | with_reducible exact DpAll.nil
  | with_reducible assumption
  | (with_reducible apply DpAll.cons; (focus (nest_cls; done)))
  | fail "dpa"))
local macro_rules | `(tactic| none_booked) => `(tactic| first | with_unfolding_all exact rfl | (with_reducible apply atI_nat; with_reducible assumption) | fail "ix")
local macro_rules | `(tactic| walk_at "go") => `(tactic| repeat (first
  | (focus (with_reducible refine go_var (v := ?_) ?_ ?_; rotate_left; (focus (with_unfolding_all exact rfl))))
  | with_reducible refine go_seq ?_
  | with_reducible refine go_cN ?_
  | with_reducible refine go_c ?_
  | with_reducible refine go_op ?_
  | with_reducible refine go_nil ?_
  | with_reducible refine go_cons ?_
  | with_reducible refine go_cb ?_
  | with_reducible refine go_call0 ?_
  | with_reducible refine go_asg ?_
  | (focus (with_reducible refine go_gname (σ' := ?_) ?_ ?_; rotate_left; (focus (simp only [List.set_cons_succ, List.set_cons_zero]; exact rfl))))
  | with_reducible refine go_par ?_
  | with_reducible refine go_par3 ?_
  | (focus (with_reducible refine go_par3k (σ' := ?_) ?_ ?_; rotate_left; (focus (simp only [List.set_cons_succ, List.set_cons_zero]; exact rfl))))
  | with_reducible refine go_bm ?_
  | (with_reducible apply go_bmL; (focus (tb_rel; done)))
  | (with_reducible apply go_fdX; (focus (with_reducible assumption; done)))
  | (with_reducible apply go_rI; (focus (with_reducible assumption; done)))
  | (focus (with_reducible refine go_par2 (σ' := ?_) ?_ ?_; rotate_left; (focus (simp only [List.set_cons_succ, List.set_cons_zero]; exact rfl))))
  | with_reducible refine go_ifs ?_
  | with_reducible refine go_test ?_
  | with_reducible refine go_tb ?_
  | with_reducible refine go_asb ?_
  | with_reducible refine go_asi ?_
  | with_reducible refine go_ret ?_
  | with_reducible refine go_retn ?_
  | with_reducible refine go_drop ?_
  | with_reducible refine go_next ?_
  | with_reducible refine go_and ?_
  | with_reducible refine go_or ?_
  | with_reducible refine go_not ?_
  | with_reducible refine go_andv ?_
  | with_reducible refine go_orv ?_
  | with_reducible refine go_notv ?_
  | with_reducible refine go_ife ?_
  | with_reducible refine go_chain ?_
  | with_reducible refine go_if1 ?_
  | with_reducible refine go_if0 ?_
  | with_reducible refine go_ifn1 ?_
  | with_reducible refine go_ifn0 ?_
  | (with_reducible apply go_ift; (focus (first | with_reducible rfl | with_reducible assumption | omega)))
  | (with_reducible apply go_ifnt; (focus (first | with_reducible rfl | with_reducible assumption | omega)))
  | (with_reducible apply go_iff; (focus (first | with_reducible assumption | omega)))
  | (with_reducible apply go_ifnf; (focus (first | with_reducible assumption | omega)))
  | with_reducible refine go_un ?_
  | with_reducible refine go_tup ?_
  | with_reducible refine go_lst ?_
  | (with_reducible apply go_newt; (focus (lcg_sub; done)); intros)
  | (with_reducible apply go_newl; (focus (lcg_sub; done)); intros)
  | with_reducible refine go_meth ?_
  | with_reducible refine go_for ?_
  | with_reducible refine go_lc ?_
  | with_reducible refine go_irng1 ?_
  | with_reducible refine go_irng2 ?_
  | with_reducible refine go_ilist ?_
  | with_reducible refine go_itup ?_
  | with_reducible refine go_izip ?_
  | with_reducible refine go_ienum ?_
  | (with_reducible apply go_rg1; (focus (lcg_src; done)))
  | (with_reducible apply go_rg2; (focus (lcg_src; done)); (focus (lcg_src; done)))
  | (with_reducible apply go_lsr; (focus (tb_rel; done)))
  | (with_reducible apply go_tpr; (focus (tb_rel; done)))
  | (with_reducible apply go_zpr; (focus (tb_rel; done)); (focus (tb_rel; done)))
  | (with_reducible apply go_zprT; (focus (tb_rel; done)); (focus (tb_rel; done)))
  | (with_reducible apply go_enrL; (focus (tb_rel; done)))
  | (with_reducible apply go_enrT; (focus (tb_rel; done)))
  | with_reducible refine go_prop ?_
  | with_reducible refine go_knr0 ?_
  | (with_reducible apply go_knr; (focus (with_unfolding_all exact rfl; done)); (focus (simp only [kSw2, kRev3, kId, List.nil_append, List.cons_append]; exact rfl)))
  | with_reducible refine go_mkn ?_
  | (with_reducible apply go_mkr; (focus (tb_rel; done)); (focus (with_unfolding_all exact rfl; done)))
  | with_reducible refine go_fld ?_
  | (with_reducible apply go_flr; (focus (tb_rel; done)); (focus (with_reducible assumption; done)); (focus (with_reducible assumption; done)); (focus (with_unfolding_all exact rfl; done)))
  | (with_reducible apply go_prr; (focus (tb_rel; done)))
  | (with_reducible apply go_mer; (focus (tb_rel; done)); (focus (with_unfolding_all exact rfl; done)))
  | with_reducible refine go_sfld ?_
  | (with_reducible apply go_sfr; (focus (tb_rel; done)); (focus (with_reducible assumption; done)); (focus (with_reducible assumption; done)); (focus (with_unfolding_all exact Nat.le_of_ble_eq_true rfl; done)); (focus (with_unfolding_all exact rfl; done)); intros)
  | with_reducible refine go_revt ?_
  | with_reducible refine go_make0 ?_
  | (focus (with_reducible refine go_aug (x := ?_) ?_ ?_; rotate_left; (focus (with_unfolding_all exact rfl))))
  | (focus (with_reducible refine go_augk (σ' := ?_) ?_ ?_; rotate_left; (focus (simp only [List.set_cons_succ, List.set_cons_zero]; exact rfl))))
  | with_reducible refine go_min2 ?_
  | with_reducible refine go_int1 ?_
  | with_reducible refine go_max2 ?_
  | with_reducible refine go_intB ?_
  | with_reducible refine go_absN ?_
  | with_reducible refine go_isN ?_
  | with_reducible refine go_notN ?_
  | (with_reducible apply go_rvt; (focus (tb_rel; done)); (focus (simp only [List.reverse_cons, List.reverse_nil, List.nil_append, List.cons_append]; exact rfl)); intros)
  | (with_reducible apply go_reprNm; (focus (tb_rel; done)); (focus (with_reducible assumption; done)))
  | (with_reducible apply go_reprPr; (focus (nest_cls; done)); (focus (lcg_src; done)); (focus (lcg_src; done)))
  | with_reducible refine go_sl ?_
  | with_reducible refine go_part ?_
  | with_reducible refine go_nopart ?_
  | (with_reducible apply go_gtup; (focus (tb_rel; done)); (focus (with_unfolding_all exact rfl; done)))
  | (with_reducible apply go_gunl; (focus (tb_rel; done)); (focus (with_unfolding_all exact rfl; done)))
  | with_reducible refine go_gcons ?_
  | with_reducible refine go_gnil ?_
  | with_reducible refine go_addN ?_
  | with_reducible refine go_ltN ?_
  | with_reducible refine go_leN ?_
  | with_reducible refine go_gtN ?_
  | with_reducible refine go_geN ?_
  | (with_reducible apply go_subN; (focus (omega; done)))
  | with_reducible refine go_rI0 ?_
  | (with_reducible apply go_mulN; (focus (omega; done)))
  | (with_reducible apply go_modN; (focus (omega; done)))
  | (with_reducible apply go_divN; (focus (omega; done)))
  | (with_reducible apply go_powN; (focus (with_unfolding_all decide; done)))
  | with_reducible refine go_rU ?_
  | with_reducible refine go_eqN ?_
  | with_reducible refine go_neN ?_
  | with_reducible refine go_isB ?_
  | with_reducible refine go_notB ?_
  | with_reducible refine go_eqS ?_
  | with_reducible refine go_neS ?_
  | with_reducible refine go_eqB ?_
  | with_reducible refine go_eqI ?_
  | with_reducible refine go_neI ?_
  | (with_reducible apply go_ixt; (focus (tb_rel; done)); (focus (none_booked; done)))
  | (with_reducible apply go_ixl; (focus (tb_rel; done)); (focus (none_booked; done)))
  | (with_reducible apply go_lent; (focus (tb_rel; done)))
  | (with_reducible apply go_lenNm; (focus (tb_rel; done)))
  | (with_reducible apply go_isiNm; (focus (tb_rel; done)))
  | (with_reducible apply go_lenl; (focus (tb_rel; done)))
  | (with_reducible apply go_catA; (focus (tb_rel; done)); (focus (tb_rel; done)); (focus (lcg_sub; done)); intros)
  | (with_reducible apply go_slaT; (focus (tb_rel; done)); intros)
  | (with_reducible apply go_slaD; (focus (tb_rel; done)); intros)
  | (with_reducible apply go_rep; (focus (tb_rel; done)); (focus (lcg_src; done)); intros)
  | (with_reducible apply go_tupofl; (focus (tb_rel; done)); intros)
  | (with_reducible apply go_sllT; (focus (tb_rel; done)); intros)
  | (with_reducible apply go_sllD; (focus (tb_rel; done)); intros)
  | (with_reducible apply go_cat; (focus (tb_rel; done)); (focus (tb_rel; done)); (focus (lcg_sub; done)); intros)
  | (with_reducible apply go_eqP; with_reducible assumption; (focus (tb_rel; done)); (focus (tb_rel; done)))
  | (with_reducible apply go_neP; with_reducible assumption; (focus (tb_rel; done)); (focus (tb_rel; done)))
  | (with_reducible apply go_mep; (focus (tb_rel; done)); (focus decide); (focus decide); (focus decide))
  | (with_reducible apply c_drawN; (focus (tb_rel; done)); (focus (lcg_src; done)); (focus (lcg_src; done)); intros)
  | (with_reducible apply c_eqright; (focus (tb_rel; done)); (focus (nest_cls; done)); (focus (nest_cls; done)); (focus (lcg_src; done)); intros)
  | (with_reducible apply c_kright; (focus (tb_rel; done)); intros)
  | (with_reducible apply c_lothers; (focus (tb_rel; done)); (focus (nest_cls; done)); (focus (lcg_src; done)); intros)
  | (with_reducible apply c_lplan2; (focus (nest_cls; done)); (focus (lcg_src; done)); intros)
  | (with_reducible apply c_right; (focus (tb_rel; done)); intros)
  | (with_reducible apply c_rounds; (focus (tb_rel; done)); intros)
  | (with_reducible apply c_tright; (focus (tb_rel; done)); (focus (nest_cls; done)); intros)
  | (with_reducible apply c_turight; (focus (tb_rel; done)); (focus (nest_cls; done)); intros)
  | with_reducible refine go_dget ?_
  | with_reducible refine go_dgr2 ?_
  | with_reducible refine go_dput ?_
  | with_reducible refine go_dpr2 ?_
  | with_reducible refine go_dpt ?_
  | with_reducible refine go_pnil ?_
  | with_reducible refine go_pcons ?_
  | with_reducible refine go_gsub ?_
  | with_reducible refine go_sir ?_
  | with_reducible refine go_lrg ?_
  | with_reducible refine go_rgt2 ?_
  | with_reducible refine go_rge ?_
  | with_reducible refine go_revl ?_
  | (with_reducible apply go_dgk; (focus (tb_rel; done)); with_reducible assumption)
  | (with_reducible apply go_dpk; (focus (tb_rel; done)); (focus (lcg_sub; done)); intros)
  | (with_reducible apply go_disp; intros)
  | (with_reducible apply go_dsk2; (focus (tb_rel; done)); intros)
  | (with_reducible apply go_lrr; (focus (omega; done)); (focus (omega; done)); intros)
  | (with_reducible apply go_rvl; (focus (tb_rel; done)); intros)
  | (with_reducible apply go_knr; (focus (with_unfolding_all exact rfl; done)); (focus (simp only [kSwM]; exact rfl)))
  | (with_reducible apply go_mkp; (focus (tb_rel; done)); (focus decide); (focus decide); (focus decide))
  | with_reducible refine go_cv ?_
  | with_reducible refine go_cvr ?_
  | with_reducible refine go_mkr1 ?_
  | with_reducible refine go_cma ?_
  | with_reducible refine go_cmk ?_
  | with_reducible refine go_cmr ?_
  | with_reducible refine go_ckr ?_
  | (with_reducible apply go_mkL; (focus (with_unfolding_all exact rfl)))
  | (with_reducible apply go_cmv; (focus (with_unfolding_all exact rfl)); (focus (simp only [gApp, kId, List.nil_append, List.cons_append, List.append_nil]; exact rfl)))
  | (with_reducible apply go_ckv; (focus (with_unfolding_all exact rfl)); (focus (simp only [gApp, kId, List.nil_append, List.cons_append, List.append_nil]; exact rfl)))
  | fail "go"))
theorem ok_right {f : Addr} {fd : FuncData} (F : Df K "_law_right" "_law_right" s_right [] f fd) (B : Blt mg) (G : PlG K mg C AX) (cDr : Ca P w K mg base 1 "_law_draw" sp_draw []) (cRo : Ca P w K mg base 3 "_law_rounds" (sp_rounds K) []) (cLp : Ca P w K mg base 8 "_law_plan" (sp_lplan2 K C) []) (cTr : Cg P w K mg base 9 "_law_told_right" ["_law_made", "_law_rows"] (sp_tright K C) []) (cTur : Cg P w K mg base 10 "_law_turned_right" ["_law_made", "_law_rows"] (sp_turight K C) []) (cOt : Ca P w K mg base 4 "_law_others" (sp_lothers K) []) (cEr : Cg P w K mg base 9 "_law_equal_right" ["_law_made", "_law_rows", "_law_more"] (sp_eqright K C) []) (cKr : Cg P w K mg base 10 "_law_known_right" ["_law_pot_here"] (sp_kright K C) []) : FnG P w K mg base 11 f fd ["_law_pot_here"] sp_right := by
  refine dfG F sc_right (fun vs H Q E h => ?_) (fun cdv A outer s H vs Q E hr ga h => ?_)
  · obtain ⟨p, rfl, _⟩ := h
    rfl
  · obtain ⟨p, rfl, hp, q⟩ := h
    refine ⟨_, (pss_cons (ps_set (i := 1) sc_right.nd rfl (Or.inl rfl) (pe_ca cRo hr (by decide) (by rfl) (pa_cons (pv 0) pa_nil)))
  (pss_cons (ps_setLc (i := 2) (own := [("_law_row", 3)]) (by rfl) sc_right.nd rfl rfl (sw_true rfl rfl rfl (by decide +kernel)) (pi_list' (pv 1)) (blkOk_by (own := [("_law_row", 3)]) (N := ["_law_pot_here", "_law_rows", "_law_passed", "_law_row", "_law_made", "_law_turn"]) (sc := defScope s_right) (by decide +kernel)) (fun _ _ _ _ _ => (pg_name (i := 3) sc_right.nd rfl (Or.inl rfl))) (fun _ _ _ _ _ => pts_nil) (fun _ _ _ _ _ => (pe_ifExp (pt_cmpR op_eq (pe_ca cDr hr (by decide) (by rfl) (pa_cons (pv 0) (pa_cons pe_int pa_nil))) pe_int (nomark _)) (pe_callTy call_list_of' (by rfl) B.list bt_list (pa_cons (pv 3) pa_nil)) (pe_callTy call_tuple_of' (by rfl) B.tuple bt_tuple (pa_cons (pv 3) pa_nil)))))
  (pss_cons (ps_set (i := 4) sc_right.nd rfl (Or.inl rfl) (pe_ca cLp hr (by decide) (by rfl) (pa_cons (pv 2) pa_nil)))
  (pss_cons (ps_for PassesOwn.never rfl (pi_list' (pv 2)) (pg_name (i := 3) sc_right.nd rfl (Or.inl rfl))
  (pss_one (ps_if (pt_val (pe_callB call_isi' (by rfl) B.isinstance bt_isinstance (pa_cons (pv 3) (pa_cons (pe_bltn (v := .ty "list") (by rfl) B.list bt_list rfl) pa_nil))))
  (pss_cons (ps_expr (pe_bm' PySem.F.plainAttrs_list PySem.F.slot_list_append PySem.F.type_list_append mt_append (pv 3) (pa_cons (pe_tup (pa_cons pe_str (pa_cons pe_int pa_nil))) pa_nil)))
  (pss_one (ps_asg (pe_tup (pa_cons pe_str (pa_cons pe_int pa_nil))) (pg_sub (pv 3) pe_int set_list))))
  pss_nil)))
  (pss_cons (ps_expr (pe_bm0 PySem.F.plainAttrs_list PySem.F.slot_list_clear PySem.F.type_list_clear mt_clear (pv 2)))
  (pss_cons (ps_if (PW.pt (pw_or (pt_not (pt_val (pe_g cTr hr ga (by decide) (by rfl) (pa_cons (pv 4) (pa_cons (pv 1) pa_nil))))) (pw_or1 (pt_not (pt_val (pe_g cTur hr ga (by decide) (by rfl) (pa_cons (pv 4) (pa_cons (pv 1) pa_nil))))))))
  (pss_one (ps_ret pe_bl))
  pss_nil)
  (pss_cons (ps_for PassesOwn.never rfl (pi_range1 (by rfl) B.range (pa_cons pe_int pa_nil)) (pg_name (i := 5) sc_right.nd rfl (Or.inl rfl))
  (pss_one (ps_if (pt_not (pt_val (pe_g cEr hr ga (by decide) (by rfl) (pa_cons (pv 4) (pa_cons (pv 1) (pa_cons (pe_ca cOt hr (by decide) (by rfl) (pa_cons (pv 0) (pa_cons (pv 1) pa_nil))) pa_nil))))))
  (pss_one (ps_ret pe_bl))
  pss_nil)))
  (pss_one (ps_ret (pe_and (pe_g cEr hr ga (by decide) (by rfl) (pa_cons (pv 4) (pa_cons (pv 1) (pa_cons (pe_lc (own := [("_law_row", 3)]) (by rfl) sc_right.nd (pi_list' (pv 1)) (blkOk_by (own := [("_law_row", 3)]) (N := ["_law_pot_here", "_law_rows", "_law_passed", "_law_row", "_law_made", "_law_turn"]) (sc := defScope s_right) (by decide +kernel)) (fun _ _ _ _ _ => (pg_name (i := 3) sc_right.nd rfl (Or.inl rfl))) (fun _ _ _ _ _ => pts_nil) (fun _ _ _ _ _ => (pe_callTy call_list_of' (by rfl) B.list bt_list (pa_cons (pv 3) pa_nil)))) pa_nil)))) (pe_one (pe_g cKr hr ga (by decide) (by rfl) (pa_cons (pv 0) pa_nil))))))))))))), ?_⟩
    refine go_start (σ := [some _, none, none, none, none, none]) rfl ?_
    walk_at "go"
    rename_i v rs H1 dv ok p1 b1
    obtain ⟨a, xs, rfl, hs, ha⟩ := dv.lstE
    have hxl : xs.length = rs.length := by rw [ha.len, List.length_map]
    have len1 := ok.1
    have len3 := ok.2.1
    have hx : ∀ x y : Int, xs ≠ [.int x, .int y] := fun x y z => by
      subst z
      match rs, ha with
      | r :: _, .cons h _ => cases h
    walk_at "go"
    refine lcMixB (K := K) (walk_list (xs := xs)) (fun i e => ∃ r, rs[i]? = some r ∧ e.2 = r.map pCut) p1 (by omega) (fun H' b => pf_sql b p1 hx hs) (fun i x H2 H3 Q' hi p2 b2 hy hq => ?_) (fun D H2 ys es nD b2 p2 eD hm hle hpd => ?_) gName_mono
    · obtain ⟨rfl, hx2⟩ := hy
      refine ⟨rfl, ?_⟩
      obtain ⟨d, hd1, hd2⟩ := ha.get hx2
      rw [List.getElem?_map] at hd1
      obtain ⟨r, hr1, rfl⟩ := Option.map_eq_some_iff.mp hd1
      walk_at "go"
      rename_i d H4 ld p4 b4
      have hd4 := pf_dp (b2.trans b4) p1 (pf_rnd r) hd2
      obtain ⟨c, zs, rfl, hzs, hza⟩ := hd4.lstE
      rcases (by omega : d = 0 ∨ d = 1) with rfl | rfl
      · walk_at "go"
        refine go_lstof (.inl hzs) fun l H5 n5 s5 e5 => ?_
        exact hq l zs (true, r.map pCut) H5 (fr_bu b4 p4 n5) (b4.trans (Bu.of s5 p)) (p4.same s5) e5 (nl_cuts r) ⟨r, hr1, rfl⟩ (hza.up s5)
      · walk_at "go"
        rename_i l H5 n5 s5 e5
        exact hq l zs (false, r.map pCut) H5 (fr_bu b4 p4 n5) (b4.trans (Bu.of s5 p)) (p4.same s5) e5 (nl_cuts r) ⟨r, hr1, rfl⟩ (hza.up s5)
    · obtain ⟨brs, rfl, rfl⟩ := brs_of rs es (by rw [hle, hxl]) hpd
      obtain ⟨qs, rfl, nd, nDq, hql, hqs⟩ := hm.ex
      have dB : DpAll K H2 (qs.map V.ref) (pPass brs) := by
        have := mix_all (K := K) (H := H2) qs _ hql fun i q e h1 h2 => (hqs i q e h1 h2).2.2
        rw [List.map_map] at this
        exact this
      walk_at "go"
      rename_i u H3 s3 hu
      have hmem : ∀ y ∈ D :: qs, H2 y ≠ none := fun y hy => by
        rcases List.mem_cons.mp hy with rfl | hy
        · rw [eD]; simp
        · obtain ⟨j, hj⟩ := List.getElem?_of_mem hy
          obtain ⟨_, _, zs, e, _⟩ := hqs j y _ hj (List.getElem?_eq_getElem (by rw [← hql]; exact (List.getElem?_eq_some_iff.mp hj).1))
          rw [e]; simp
      have hN := hu (D :: qs) hmem
      have q0 : ∀ y ∈ qs, H1 y = none := fun y hy => by
        obtain ⟨j, hj⟩ := List.getElem?_of_mem hy
        exact (hqs j y _ hj (List.getElem?_eq_getElem (by rw [← hql]; exact (List.getElem?_eq_some_iff.mp hj).1))).1
      have qz : ∀ y ∈ qs, ∃ b zs, H3 y = some (sqO b zs) ∧ 1 ≤ zs.length ∧ zs.length ≤ 5 + 0 := fun y hy => by
        obtain ⟨j, hj⟩ := List.getElem?_of_mem hy
        have hjl : j < brs.length := by
          have := (List.getElem?_eq_some_iff.mp hj).1
          rw [hql, List.length_map] at this
          exact this
        obtain ⟨_, _, zs, e, d⟩ := hqs j y ((brs[j]).1, (brs[j]).2.map pCut) hj (by rw [List.getElem?_map, List.getElem?_eq_getElem hjl]; rfl)
        have hro := ok.2.2.1 (brs[j]).2 (List.mem_map_of_mem (List.getElem_mem hjl))
        have zl := d.len
        rw [List.length_map] at zl
        exact ⟨_, zs, s3 _ _ e, by rw [zl]; exact hro.1, by rw [zl]; exact hro.2.1⟩
      have nD1 : H1 D = none := nD
      have b3 : Bu p H1 H3 := b2.trans (Bu.of s3 p)
      have p3 := p2.same s3
      have eD3 := s3 _ _ eD
      have ql3 : qs.length ≤ 3 := by rw [hql, List.length_map]; rw [List.length_map] at len3; exact len3
      clear hqs hmem hu dB hm hpd hle eD
      refine forList (K := K) (xs := qs.map V.ref) (fun i σ H' => ∃ v3, σ = [some (.ref p), some (.ref a), some (.ref D), v3, some u, none] ∧ Pot H' p ∧ Bu p H1 H' ∧ PlanN K C H' (D :: qs) u (brs.map Prod.snd) ∧ H' D = some (.lst (qs.map V.ref)) ∧ ∀ y ∈ qs, ∃ b zs, H' y = some (sqO b zs) ∧ 1 ≤ zs.length ∧ zs.length ≤ 5 + i) ⟨_, rfl, p3, b3, hN, eD3, qz⟩ (fun i σ H' h => by obtain ⟨_, _, _, _, _, h, _⟩ := h; exact SqL.of h) ?_ ?_
      · clear hN qz eD3 p3 b3 s3 p2 b2
        rintro i x σ H4 hi hx4 ⟨v3, rfl, p4, b4, hN, eD4, qz⟩
        rw [List.getElem?_map] at hx4
        obtain ⟨y, hy1, rfl⟩ := Option.map_eq_some_iff.mp hx4
        have hy := List.mem_of_getElem? hy1
        obtain ⟨b, zs, ey, z1, z5⟩ := qz y hy
        have nDy : D ≠ y := fun z => nDq (z ▸ hy)
        have hi3 : i < 3 := by rw [List.length_map] at hi; omega
        cases b with
        | false =>
          have ey : H4 y = some (.tup zs) := ey
          walk_at "go"
          refine ⟨_, _, _, _, false, rfl, .ty _, tyT (SqT.of ey), kit_ty (by decide +kernel), ?_⟩
          walk_at "go"
          exact ⟨_, rfl, p4, b4, hN, eD4, fun y' h' => by obtain ⟨b, zs, h1, h2, h3⟩ := qz y' h'; exact ⟨b, zs, h1, h2, by omega⟩⟩
        | true =>
          have ey : H4 y = some (.lst zs) := ey
          walk_at "go"
          refine ⟨_, _, _, _, true, rfl, .ty _, tyL (SqL.of ey), kit_ty (by decide +kernel), ?_⟩
          walk_at "go"
          rename_i t5 H5 n5 s5 e5
          have ey5 := s5 _ _ ey
          have nyp : y ≠ p := p1.ne (q0 y hy)
          refine go_app ey5 (by unfold sizeLine; omega) ?_
          have b6 : Bu p H1 (upd H5 y (.lst (zs ++ [V.ref t5]))) := bu_over (b4.trans (Bu.of s5 p)) (q0 y hy)
          have p6 : Pot (upd H5 y (.lst (zs ++ [V.ref t5]))) p := (p4.same s5).upd nyp
          have N6 := (hN.same s5).bu (Bu.set (o := .lst (zs ++ [V.ref t5]))) ey5 (List.mem_cons_of_mem _ hy)
          have eD6 : upd H5 y (.lst (zs ++ [V.ref t5])) D = some (.lst (qs.map V.ref)) := by rw [upd_ne nDy]; exact s5 _ _ eD4
          have ey6 : upd H5 y (.lst (zs ++ [V.ref t5])) y = some (.lst (zs ++ [V.ref t5])) := upd_same
          have qz6 : ∀ y' ∈ qs, ∃ b zs', upd H5 y (.lst (zs ++ [V.ref t5])) y' = some (sqO b zs') ∧ 1 ≤ zs'.length ∧ zs'.length ≤ 5 + (i + 1) := fun y' h' => by
            by_cases e : y' = y
            · subst e
              exact ⟨true, zs ++ [.ref t5], upd_same, by simp, by simp; omega⟩
            · obtain ⟨b, zs', h1, h2, h3⟩ := qz y' h'
              exact ⟨b, zs', by rw [upd_ne e]; exact s5 _ _ h1, h2, by omega⟩
          generalize upd H5 y (.lst (zs ++ [V.ref t5])) = H6 at *
          walk_at "go"
          rename_i t7 H7 n7 s7 e7
          have ey7 := s7 _ _ ey6
          refine go_setL (k := 0) ey7 (by simp) ?_
          refine ⟨_, rfl, (p6.same s7).upd nyp, bu_over (b6.trans (Bu.of s7 p)) (q0 y hy), (N6.same s7).bu Bu.set ey7 (List.mem_cons_of_mem _ hy), by rw [upd_ne nDy]; exact s7 _ _ eD6, fun y' h' => ?_⟩
          by_cases e : y' = y
          · subst e
            exact ⟨true, _, upd_same, by simp, by simp; omega⟩
          · obtain ⟨b, zs', h1, h2, h3⟩ := qz6 y' h'
            exact ⟨b, zs', by rw [upd_ne e]; exact s7 _ _ h1, h2, h3⟩
      · clear hN qz eD3 p3 b3 s3 p2 b2
        rintro σ H4 ⟨v3, rfl, p4, b4, hN, eD4, qz⟩
        refine (?_ : tVar 2 _ H4 (fun x H1 => tyV K "list" x H1 ∧ rClear x [] H1 _))
        walk_at "go"
        refine ⟨Or.inl ⟨rfl, _, SqL.of eD4⟩, _, _, rfl, rfl, eD4, ?_⟩
        have nDp : D ≠ p := p1.ne nD1
        have b5 : Bu p H1 (upd H4 D (.lst [])) := bu_over b4 nD1
        have p5 : Pot (upd H4 D (.lst [])) p := p4.upd nDp
        have hm5 := (hN.bu (Bu.set (o := .lst [])) eD4 (List.mem_cons_self ..)).at_
        have dv5 := pf_dp b5 p1 (pf_rds _) dv
        generalize upd H4 D (.lst []) = H5 at *
        generalize brs.map Prod.snd = rs at *
        clear qz eD4 hN b4 p4 q0
        walk_at "go"
        rename_i H6 s6 H7 s7
        have s57 : Same H5 H7 := s6.trans s7
        have b7 : Bu p H1 H7 := b5.trans (Bu.of s57 p)
        have p7 := p5.same s57
        have hm7 := hm5.same s57
        have dv7 := dv5.up s57
        clear s6 s7 hm5 dv5 b5 p5 s57
        refine forRange (fun i σ H' => ∃ v3 v5, σ = [some (.ref p), some (.ref a), some (.ref D), v3, some u, v5] ∧ Pot H' p ∧ Bu p H1 H' ∧ PlanAt K C H' u rs ∧ Dp K H' (.ref a) (pRds rs)) ⟨_, _, rfl, p7, b7, hm7, dv7⟩ ?_ ?_
        · clear p7 b7 hm7 dv7
          rintro i σ H8 hi ⟨v3, v5, rfl, p8, b8, hm8, dv8⟩
          walk_at "go"
          rename_i w qs2 H9 dw okw p9 b9
          refine ⟨u, _, w, rs, qs2, rfl, plan_bu b9 p8 hm8, pf_dp b9 p8 (pf_rds rs) dv8, dw, okw, fun H10 s10 => ?_⟩
          walk_at "go"
          exact ⟨_, _, rfl, p9.same s10, (b8.trans b9).trans (Bu.of s10 p), (plan_bu b9 p8 hm8).same s10, (pf_dp b9 p8 (pf_rds rs) dv8).up s10⟩
        · clear p7 b7 hm7 dv7
          rintro σ H8 ⟨v3, v5, rfl, p8, b8, hm8, dv8⟩
          obtain ⟨a', zs, ea, hz, hza⟩ := dv8.lstE
          cases ea
          have hzl : zs.length = rs.length := by rw [hza.len, List.length_map]
          walk_at "go"
          refine lcNews (K := K) (walk_list (xs := zs)) (fun i => (rs.getD i []).map pCut) (by omega) (fun i _ => nl_cuts _) (fun H' s => s.seq hz) (fun i x H9 H10 Q' hi s9 hy hq => ?_) (fun D2 H9 ys n9 s9 e9 hn => ?_) gName_mono
          · obtain ⟨rfl, hx⟩ := hy
            refine ⟨rfl, ?_⟩
            obtain ⟨d, hd1, hd2⟩ := (hza.up s9).get hx
            rw [List.getElem?_map] at hd1
            obtain ⟨r, hr1, rfl⟩ := Option.map_eq_some_iff.mp hd1
            obtain ⟨c, us, rfl, hus, hua⟩ := hd2.lstE
            walk_at "go"
            refine go_lstof (.inl hus) ?_
            intro l H3 nl s3 el
            refine hq l us H3 nl s3 el ?_
            rw [List.getD_eq_getElem?_getD, hr1]
            exact hua.up s3
          · rw [hzl, range_rds] at hn
            walk_at "go"
            refine ⟨u, _, _, rs, rs, rfl, hm8.same s9, dv8.up s9, new_rds hn e9, hm8.ok, fun H10 s10 => ?_⟩
            walk_at "go"
            have b10 : Bu p H8 H10 := (Bu.of s9 p).trans (Bu.of s10 p)
            rename_i H11 p11 b11
            exact q _ p11 (((b1.trans b8).trans b10).trans b11)
end
end T
set_option Elab.async false
set_option maxRecDepth 100000
set_option maxHeartbeats 4000000
namespace T
open PySem L2 Mv
abbrev s_law : Stmt := top 53
theorem sc_law : FnScope ["_law_script", "_law_k", "_law_pot_here"] ["_law_script"] (defScope s_law) := ⟨rfl, rfl, rfl, by decide +kernel, rfl, by decide +kernel, by decide +kernel⟩
section
variable {P : Program} {w : World} {K : PySem.W.Frag} {mg : Str → Option Value} {base : Heap} {C AX : Addr}
def sp_law (K : PySem.W.Frag) : Sp := fun vs H Q _ => ∃ (a : Addr) (ns : List Int), vs = [.ref a] ∧ SqL K H a (ns.map V.int) ∧ ns.length ≤ 63 ∧ ∀ H', Q (.bl true) H'
theorem c_law {K : PySem.W.Frag} {a : Addr} {ns : List Int} {H : Hp} {Q : VK} {E : XK} (h0 : SqL K H a (ns.map V.int)) (h1 : ns.length ≤ 63) (q : ∀ H', Q (.bl true) H') : sp_law K [.ref a] H Q E := ⟨_, _, rfl, h0, h1, q⟩
local macro_rules | `(tactic| tb_rel) => `(tactic| repeat (first
  | with_reducible assumption
  | with_reducible exact Dp.int _
  | with_reducible exact Dp.str _
  | with_reducible exact Dp.bl _
  | with_reducible exact Dp.non
  | (with_reducible apply SqT.of; with_reducible assumption)
  | (with_reducible apply SqL.of; with_reducible assumption)
  | (with_reducible apply up_dp; with_reducible assumption)
  | (with_reducible apply up_sqt; with_reducible assumption)
  | (with_reducible apply up_sql; with_reducible assumption)
  | (with_reducible apply up_get; with_reducible assumption)
  | (with_reducible apply up_pot; with_reducible assumption)
  | with_reducible exact Same.refl _
  | with_reducible exact Bu.refl _ _
  | (with_reducible apply up_same; with_reducible assumption)
  | (with_reducible apply up_bu; with_reducible assumption)
  | (with_reducible apply bu_bu; with_reducible assumption)
  | (with_reducible apply free_of; with_reducible assumption)
  | (with_reducible apply mi_fr; with_reducible assumption; (focus (tb_rel; done)))
  | (with_reducible apply mi_dp; with_reducible assumption)
  | (with_reducible apply mi_sqt; with_reducible assumption)
  | (with_reducible apply mi_sql; with_reducible assumption)
  | (with_reducible apply mi_gett; with_reducible assumption)
  | (with_reducible apply mi_getl; with_reducible assumption)
  | (with_reducible apply mi_pot; with_reducible assumption)
  | (with_reducible apply mi_refl; with_reducible assumption; (focus (with_unfolding_all exact rfl)))
  | (with_reducible apply up_mi; with_reducible assumption)
  | (with_reducible apply mi_mi; with_reducible assumption)
  | (with_reducible apply mi_bu; with_reducible assumption)
  | (with_reducible apply bu_gett; with_reducible assumption; (focus (tb_rel; done)))
  | (with_reducible apply bu_geti; with_reducible assumption; (focus (tb_rel; done)))
  | (with_reducible apply bu_get; with_reducible assumption; (focus (tlg_ne; done)))
  | (with_reducible apply bu_sqt; with_reducible assumption; (focus (tb_rel; done)))
  | (with_reducible apply bu_sql; with_reducible assumption; (focus (tlg_ne; done)))
  | (with_reducible apply bu_dp; with_reducible assumption; (focus (tb_rel; done)); (focus (lcg_src; done)))
  | fail "up"))
local macro_rules | `(tactic| tlg_ne) => `(tactic| first
  | with_reducible assumption
  | (with_reducible apply pot_ne; with_reducible assumption; (focus (tb_rel; done)))
  | fail "ne")
local macro_rules | `(tactic| lcg_src) => `(tactic| first
  | with_reducible assumption
  | with_unfolding_all exact rfl
  | with_unfolding_all decide
  | with_unfolding_all exact Nat.ne_of_beq_eq_false rfl
  | (apply_assumption; done)
  | omega
  | (simp; done)
  | (simp; omega)
  | fail "sd")
local macro_rules | `(tactic| lcg_sub) => `(tactic| first
  | (unfold sizeLine; omega)
  | (simp only [List.length_cons, List.length_nil, List.length_append, List.length_map, List.length_replicate, List.length_take, List.length_drop]; unfold sizeLine; omega)
  | (simp; unfold sizeLine; omega)
  | fail "sz")
local macro_rules | `(tactic| nest_cls) => `(tactic| first
  | (tb_rel; done)
  | (with_reducible apply nmI; (focus (tb_rel; done)))
  | (with_reducible apply d_tup; (focus (tb_rel; done)); (focus (lsm_bools; done)))
  | (with_reducible apply d_lst; (focus (tb_rel; done)); (focus (lsm_bools; done)))
  | fail "dp")
local macro_rules | `(tactic| lsm_bools) => `(tactic| repeat (first
  | with_reducible exact DpAll.nil
  | with_reducible assumption
  | (with_reducible apply DpAll.cons; (focus (nest_cls; done)))
  | fail "dpa"))
local macro_rules | `(tactic| none_booked) => `(tactic| first | with_unfolding_all exact rfl | (with_reducible apply atI_nat; with_reducible assumption) | fail "ix")
local macro_rules | `(tactic| walk_at "go") => `(tactic| repeat (first
  | (focus (with_reducible refine go_var (v := ?_) ?_ ?_; rotate_left; (focus (with_unfolding_all exact rfl))))
  | with_reducible refine go_seq ?_
  | with_reducible refine go_cN ?_
  | with_reducible refine go_c ?_
  | with_reducible refine go_op ?_
  | with_reducible refine go_nil ?_
  | with_reducible refine go_cons ?_
  | with_reducible refine go_cb ?_
  | with_reducible refine go_call0 ?_
  | with_reducible refine go_asg ?_
  | (focus (with_reducible refine go_gname (σ' := ?_) ?_ ?_; rotate_left; (focus (simp only [List.set_cons_succ, List.set_cons_zero]; exact rfl))))
  | with_reducible refine go_par ?_
  | (focus (with_reducible refine go_par2 (σ' := ?_) ?_ ?_; rotate_left; (focus (simp only [List.set_cons_succ, List.set_cons_zero]; exact rfl))))
  | with_reducible refine go_ifs ?_
  | with_reducible refine go_test ?_
  | with_reducible refine go_tb ?_
  | with_reducible refine go_asb ?_
  | with_reducible refine go_asi ?_
  | with_reducible refine go_ret ?_
  | with_reducible refine go_retn ?_
  | with_reducible refine go_drop ?_
  | with_reducible refine go_next ?_
  | with_reducible refine go_and ?_
  | with_reducible refine go_or ?_
  | with_reducible refine go_not ?_
  | with_reducible refine go_andv ?_
  | with_reducible refine go_orv ?_
  | with_reducible refine go_notv ?_
  | with_reducible refine go_ife ?_
  | with_reducible refine go_chain ?_
  | with_reducible refine go_if1 ?_
  | with_reducible refine go_if0 ?_
  | with_reducible refine go_ifn1 ?_
  | with_reducible refine go_ifn0 ?_
  | (with_reducible apply go_ift; (focus (first | with_reducible rfl | with_reducible assumption | omega)))
  | (with_reducible apply go_ifnt; (focus (first | with_reducible rfl | with_reducible assumption | omega)))
  | (with_reducible apply go_iff; (focus (first | with_reducible assumption | omega)))
  | (with_reducible apply go_ifnf; (focus (first | with_reducible assumption | omega)))
  | with_reducible refine go_un ?_
  | with_reducible refine go_tup ?_
  | with_reducible refine go_lst ?_
  | (with_reducible apply go_newt; (focus (lcg_sub; done)); intros)
  | (with_reducible apply go_newl; (focus (lcg_sub; done)); intros)
  | with_reducible refine go_meth ?_
  | with_reducible refine go_for ?_
  | with_reducible refine go_lc ?_
  | with_reducible refine go_irng1 ?_
  | with_reducible refine go_irng2 ?_
  | with_reducible refine go_ilist ?_
  | with_reducible refine go_itup ?_
  | with_reducible refine go_izip ?_
  | with_reducible refine go_ienum ?_
  | (with_reducible apply go_rg1; (focus (lcg_src; done)))
  | (with_reducible apply go_rg2; (focus (lcg_src; done)); (focus (lcg_src; done)))
  | (with_reducible apply go_lsr; (focus (tb_rel; done)))
  | (with_reducible apply go_tpr; (focus (tb_rel; done)))
  | (with_reducible apply go_zpr; (focus (tb_rel; done)); (focus (tb_rel; done)))
  | (with_reducible apply go_zprT; (focus (tb_rel; done)); (focus (tb_rel; done)))
  | (with_reducible apply go_enrL; (focus (tb_rel; done)))
  | (with_reducible apply go_enrT; (focus (tb_rel; done)))
  | with_reducible refine go_prop ?_
  | with_reducible refine go_knr0 ?_
  | (with_reducible apply go_knr; (focus (with_unfolding_all exact rfl; done)); (focus (simp only [kSw2, kRev3, kId, List.nil_append, List.cons_append]; exact rfl)))
  | with_reducible refine go_mkn ?_
  | (with_reducible apply go_mkr; (focus (tb_rel; done)); (focus (with_unfolding_all exact rfl; done)))
  | with_reducible refine go_fld ?_
  | (with_reducible apply go_flr; (focus (tb_rel; done)); (focus (with_reducible assumption; done)); (focus (with_reducible assumption; done)); (focus (with_unfolding_all exact rfl; done)))
  | (with_reducible apply go_prr; (focus (tb_rel; done)))
  | (with_reducible apply go_mer; (focus (tb_rel; done)); (focus (with_unfolding_all exact rfl; done)))
  | with_reducible refine go_sfld ?_
  | (with_reducible apply go_sfr; (focus (tb_rel; done)); (focus (with_reducible assumption; done)); (focus (with_reducible assumption; done)); (focus (with_unfolding_all exact Nat.le_of_ble_eq_true rfl; done)); (focus (with_unfolding_all exact rfl; done)); intros)
  | with_reducible refine go_revt ?_
  | with_reducible refine go_make0 ?_
  | (focus (with_reducible refine go_aug (x := ?_) ?_ ?_; rotate_left; (focus (with_unfolding_all exact rfl))))
  | (focus (with_reducible refine go_augk (σ' := ?_) ?_ ?_; rotate_left; (focus (simp only [List.set_cons_succ, List.set_cons_zero]; exact rfl))))
  | with_reducible refine go_min2 ?_
  | with_reducible refine go_int1 ?_
  | with_reducible refine go_max2 ?_
  | with_reducible refine go_intB ?_
  | with_reducible refine go_absN ?_
  | with_reducible refine go_isN ?_
  | with_reducible refine go_notN ?_
  | (with_reducible apply go_rvt; (focus (tb_rel; done)); (focus (simp only [List.reverse_cons, List.reverse_nil, List.nil_append, List.cons_append]; exact rfl)); intros)
  | (with_reducible apply go_reprNm; (focus (tb_rel; done)); (focus (with_reducible assumption; done)))
  | (with_reducible apply go_reprPr; (focus (nest_cls; done)); (focus (lcg_src; done)); (focus (lcg_src; done)))
  | with_reducible refine go_sl ?_
  | with_reducible refine go_part ?_
  | with_reducible refine go_nopart ?_
  | (with_reducible apply go_gtup; (focus (tb_rel; done)); (focus (with_unfolding_all exact rfl; done)))
  | (with_reducible apply go_gunl; (focus (tb_rel; done)); (focus (with_unfolding_all exact rfl; done)))
  | with_reducible refine go_gcons ?_
  | with_reducible refine go_gnil ?_
  | with_reducible refine go_addN ?_
  | with_reducible refine go_ltN ?_
  | with_reducible refine go_leN ?_
  | with_reducible refine go_gtN ?_
  | with_reducible refine go_geN ?_
  | (with_reducible apply go_subN; (focus (omega; done)))
  | with_reducible refine go_rI0 ?_
  | (with_reducible apply go_mulN; (focus (omega; done)))
  | (with_reducible apply go_modN; (focus (omega; done)))
  | (with_reducible apply go_divN; (focus (omega; done)))
  | (with_reducible apply go_powN; (focus (with_unfolding_all decide; done)))
  | with_reducible refine go_rU ?_
  | with_reducible refine go_eqN ?_
  | with_reducible refine go_neN ?_
  | with_reducible refine go_isB ?_
  | with_reducible refine go_notB ?_
  | with_reducible refine go_eqS ?_
  | with_reducible refine go_neS ?_
  | with_reducible refine go_eqB ?_
  | with_reducible refine go_eqI ?_
  | with_reducible refine go_neI ?_
  | (with_reducible apply go_ixt; (focus (tb_rel; done)); (focus (none_booked; done)))
  | (with_reducible apply go_ixl; (focus (tb_rel; done)); (focus (none_booked; done)))
  | (with_reducible apply go_lent; (focus (tb_rel; done)))
  | (with_reducible apply go_lenNm; (focus (tb_rel; done)))
  | (with_reducible apply go_isiNm; (focus (tb_rel; done)))
  | (with_reducible apply go_lenl; (focus (tb_rel; done)))
  | (with_reducible apply go_catA; (focus (tb_rel; done)); (focus (tb_rel; done)); (focus (lcg_sub; done)); intros)
  | (with_reducible apply go_slaT; (focus (tb_rel; done)); intros)
  | (with_reducible apply go_slaD; (focus (tb_rel; done)); intros)
  | (with_reducible apply go_rep; (focus (tb_rel; done)); (focus (lcg_src; done)); intros)
  | (with_reducible apply go_tupofl; (focus (tb_rel; done)); intros)
  | (with_reducible apply go_sllT; (focus (tb_rel; done)); intros)
  | (with_reducible apply go_sllD; (focus (tb_rel; done)); intros)
  | (with_reducible apply go_cat; (focus (tb_rel; done)); (focus (tb_rel; done)); (focus (lcg_sub; done)); intros)
  | (with_reducible apply c_law; (focus (tb_rel; done)); (focus (lcg_src; done)); intros)
  | (with_reducible apply c_right; (focus (tb_rel; done)); intros)
  | fail "go"))
theorem ok_law {f : Addr} {fd : FuncData} (F : Df K "law" "law" s_law [] f fd) (B : Blt mg) (cPot : Ca P w K mg base 1 "_law_pot" (sp_pot K) []) (cRight : Cg P w K mg base 11 "_law_right" ["_law_pot_here"] sp_right []) :
    FnG P w K mg base 12 f fd ["_law_script"] (sp_law K) := by
  refine dfG F sc_law (fun vs H Q E h => ?_) (fun cdv A outer s H vs Q E hr ga h => ?_)
  · obtain ⟨a, ns, rfl, _⟩ := h
    rfl
  · obtain ⟨a, ns, rfl, hS, hlen, q⟩ := h
    have hl : (ns.map V.int).length ≤ 63 := by rw [List.length_map]; exact hlen
    refine ⟨_, (pss_cons (ps_for PassesOwn.never rfl (pi_range1 (by rfl) B.range (pa_cons (pe_callB (call_max2' rfl) (by rfl) B.max bt_max (pa_cons pe_int (pa_cons (pe_callB (call_min2' rfl) (by rfl) B.min bt_min (pa_cons (pe_callB call_len_seq' (by rfl) B.len bt_len (pa_cons (pv 0) pa_nil)) (pa_cons pe_int pa_nil))) pa_nil))) pa_nil)) (pg_name (i := 1) sc_law.nd rfl (Or.inl rfl))
  (pss_cons (ps_set (i := 2) sc_law.nd rfl (Or.inl rfl) (pe_ca cPot hr (by decide) (by rfl) (pa_cons (pv 0) (pa_cons (pv 1) pa_nil))))
  (pss_one (ps_if (PW.pt (pw_or (pt_not (pt_val (pe_g cRight hr ga (by decide) (by rfl) (pa_cons (pv 2) pa_nil)))) (pw_or1 (pt_not (pt_val (pe_g cRight hr ga (by decide) (by rfl) (pa_cons (pv 2) pa_nil)))))))
  (pss_one (ps_ret pe_bl))
  pss_nil))))
  (pss_one (ps_ret pe_bl))), ?_⟩
    refine go_start (σ := [some _, none, none]) rfl ?_
    walk_at "go"
    refine forRange (fun i σ H' => ∃ v1 v2, σ = [some (.ref a), v1, v2] ∧ Same H H') ⟨_, _, rfl, Same.refl _⟩ ?_ ?_
    · rintro i σ H1 hi ⟨v1, v2, rfl, s1⟩
      walk_at "go"
      refine ⟨a, ns, i, by simp, s1.seq hS, by omega, fun p hp x y hx hy hy2 => ?_⟩
      have n0 : H p = none := s1.free hp
      have s2 : Same H (upd H1 p (.lst [.int x, .int y])) := s1.trans (same_new hp)
      have p2 : Pot (upd H1 p (.lst [.int x, .int y])) p := ⟨x, y, upd_same, hx, hy, hy2⟩
      generalize upd H1 p (.lst [.int x, .int y]) = H2 at *
      walk_at "go"
      rename_i H3 p3 b3 H4 p4 b4
      exact ⟨_, _, rfl, fun c o ec => b4 c o (ne_of_none ec n0) (b3 c o (ne_of_none ec n0) (s2 _ _ ec))⟩
    · rintro σ H1 ⟨v1, v2, rfl, s1⟩
      walk_at "go"
      exact q _
end
end T
set_option Elab.async false
set_option maxRecDepth 100000
set_option maxHeartbeats 4000000
namespace T
open PySem L2 Mv
open He (ga ma)
theorem all_mk {P : Program} {w : World} {K : PySem.W.Frag} {h : Heap} {mg : Str → Option Value} {fa : Addr} (X : K.In h) (Gn : h.Ns mainGlobals mg) (hfa : mg "law" = some (.ref fa))
    {C : Addr} {t_EAST : Tok} {t_NORTH : Tok} {t_FEWEST_PARTS : Tok} {t_MOST_PARTS : Tok} {t_MOST_FINE : Tok} {AX : Addr} {t1AX : Tok} {t2AX : Tok} {nAX : Nat} {sAX : Array (Option Value)} {u1C : Tok} {u2C : Tok} {u3C : Tok} {f_law : Addr} {fd_law : FuncData} {f_pot : Addr} {fd_pot : FuncData} {f_right : Addr} {fd_right : FuncData} {f_draw : Addr} {fd_draw : FuncData} {f_rounds : Addr} {fd_rounds : FuncData} {f_pick : Addr} {fd_pick : FuncData} {f_mixed : Addr} {fd_mixed : FuncData} {f_lprod : Addr} {fd_lprod : FuncData} {f_lplan2 : Addr} {fd_lplan2 : FuncData} {f_init2 : Addr} {fd_init2 : FuncData} {f_wantrounds : Addr} {fd_wantrounds : FuncData} {f_isround : Addr} {fd_isround : FuncData} {f_islist : Addr} {fd_islist : FuncData} {f_iscut : Addr} {fd_iscut : FuncData} {f_isaxis : Addr} {fd_isaxis : FuncData} {f_areparts : Addr} {fd_areparts : FuncData} {f_isint : Addr} {fd_isint : FuncData} {f_along1 : Addr} {fd_along1 : FuncData} {f_prod : Addr} {fd_prod : FuncData} {f_tright : Addr} {fd_tright : FuncData} {f_rright : Addr} {fd_rright : FuncData} {f_lparts : Addr} {fd_lparts : FuncData} {f_lplace : Addr} {fd_lplace : FuncData} {f_signs : Addr} {fd_signs : FuncData} {f_parts : Addr} {fd_parts : FuncData} {f_wantphase : Addr} {fd_wantphase : FuncData} {f_count : Addr} {fd_count : FuncData} {f_plen : Addr} {fd_plen : FuncData} {f_placeof : Addr} {fd_placeof : FuncData} {f_wantsign : Addr} {fd_wantsign : FuncData} {f_placein : Addr} {fd_placein : FuncData} {f_along : Addr} {fd_along : FuncData} {f_signat : Addr} {fd_signat : FuncData} {f_signin : Addr} {fd_signin : FuncData} {f_cright : Addr} {fd_cright : FuncData} {f_pcounts : Addr} {fd_pcounts : FuncData} {f_wantfine : Addr} {fd_wantfine : FuncData} {f_pphase : Addr} {fd_pphase : FuncData} {p_pgrowth : Addr} {f_pgrowth : Addr} {r_pgrowth : List Value} {fd_pgrowth : FuncData} {f_prounds : Addr} {fd_prounds : FuncData} {f_prepr : Addr} {fd_prepr : FuncData} {f_turight : Addr} {fd_turight : FuncData} {f_turned : Addr} {fd_turned : FuncData} {f_init : Addr} {fd_init : FuncData} {f_peq : Addr} {fd_peq : FuncData} {f_lothers : Addr} {fd_lothers : FuncData} {f_eqright : Addr} {fd_eqright : FuncData} {f_lplan : Addr} {fd_lplan : FuncData} {f_peqx : Addr} {fd_peqx : FuncData} {f_kright : Addr} {fd_kright : FuncData} {p_psquares : Addr} {f_psquares : Addr} {r_psquares : List Value} {fd_psquares : FuncData} {p_pcodes : Addr} {f_pcodes : Addr} {r_pcodes : List Value} {fd_pcodes : FuncData}
    (hn : PySem.W.specialIn K (.builtin "object.__class__") "__get__" = some (some (.builtin "getset_descriptor.__get__")))
    (htk : PySem.W.takesIn K (.builtin "object.__class__") = some true)
    (z_len : PySem.W.nsIn K mainGlobals "len" = some none)
    (z_abs : PySem.W.nsIn K mainGlobals "abs" = some none)
    (z_max : PySem.W.nsIn K mainGlobals "max" = some none)
    (z_min : PySem.W.nsIn K mainGlobals "min" = some none)
    (z_int : PySem.W.nsIn K mainGlobals "int" = some none)
    (z_bool : PySem.W.nsIn K mainGlobals "bool" = some none)
    (z_str : PySem.W.nsIn K mainGlobals "str" = some none)
    (z_repr : PySem.W.nsIn K mainGlobals "repr" = some none)
    (z_all : PySem.W.nsIn K mainGlobals "all" = some none)
    (z_any : PySem.W.nsIn K mainGlobals "any" = some none)
    (z_range : PySem.W.nsIn K mainGlobals "range" = some none)
    (z_divmod : PySem.W.nsIn K mainGlobals "divmod" = some none)
    (z_isinstance : PySem.W.nsIn K mainGlobals "isinstance" = some none)
    (z_list : PySem.W.nsIn K mainGlobals "list" = some none)
    (z_tuple : PySem.W.nsIn K mainGlobals "tuple" = some none)
    (z_dict : PySem.W.nsIn K mainGlobals "dict" = some none)
    (z_enumerate : PySem.W.nsIn K mainGlobals "enumerate" = some none)
    (z_zip : PySem.W.nsIn K mainGlobals "zip" = some none)
    (z_sorted : PySem.W.nsIn K mainGlobals "sorted" = some none)
    (z_sum : PySem.W.nsIn K mainGlobals "sum" = some none)
    (z_type : PySem.W.nsIn K mainGlobals "type" = some none)
    (g_C : PySem.W.nsIn K mainGlobals "Plan" = some (some (.ref C)))
    (pg_C : PySem.W.plainGet K C Str.empty = true)
    (hd_C : PySem.W.hasDictIn K C = true)
    (po_C : PySem.W.plainOver K C = true)
    (sa_C : PySem.W.findIn K (.ref C) "__setattr__" = some (some (.builtin "object.__setattr__")))
    (mk_C : PySem.W.makesIn K C = true)
    (kc_C : PySem.W.keepIn K (.ref C) = true)
    (ha_C : PySem.W.findIn K (.ref C) "__class__" = some (some (.builtin "object.__class__")))
    (hm_C : PySem.W.mroIn K C (.type "object") = some true)
    (me_C : PySem.W.kitOne K (.ref C) (.ref C) = some true)
    (ne_C : PySem.W.findIn K (.ref C) "__ne__" = some (some (.builtin "object.__ne__")))
    (n_own_rounds : PySem.W.findIn K (.ref C) "own_rounds" = some none)
    (n_own_parts : PySem.W.findIn K (.ref C) "own_parts" = some none)
    (n_own_growth : PySem.W.findIn K (.ref C) "own_growth" = some none)
    (v_EAST : PySem.W.nsIn K mainGlobals "EAST" = some (some (.str "east" t_EAST)))
    (v_NORTH : PySem.W.nsIn K mainGlobals "NORTH" = some (some (.str "north" t_NORTH)))
    (v_FEWEST_PARTS : PySem.W.nsIn K mainGlobals "FEWEST_PARTS" = some (some (.int 2 t_FEWEST_PARTS)))
    (v_MOST_PARTS : PySem.W.nsIn K mainGlobals "MOST_PARTS" = some (some (.int 4 t_MOST_PARTS)))
    (v_MOST_FINE : PySem.W.nsIn K mainGlobals "MOST_FINE" = some (some (.int 1000 t_MOST_FINE)))
    (v_AXES : PySem.W.nsIn K mainGlobals "AXES" = some (some (.ref AX)))
    (l_AX : K.lookup AX = some ⟨.type "tuple", none, .seq #[.str "east" t1AX, .str "north" t2AX] nAX, sAX⟩)
    (t_C : PySem.W.typeIn K (.ref C) = some (.type "type"))
    (ga_C : PySem.W.specialIn K (.ref C) "__getattribute__" = some (some (.builtin "type.__getattribute__")))
    (rd_C : PySem.W.readsIn K C (.type "type") = true)
    (cv_MOST_ROUNDS : PySem.W.findCls K (.ref C) (.type "type") "MOST_ROUNDS" = some (.val (.int 3 u1C)))
    (cv_MOST_CUTS : PySem.W.findCls K (.ref C) (.type "type") "MOST_CUTS" = some (.val (.int 5 u2C)))
    (cv_MOST_SIGNS : PySem.W.findCls K (.ref C) (.type "type") "MOST_SIGNS" = some (.val (.int 32 u3C)))
    (no1_0 : PySem.W.kitOne K (.type "NoneType") (.ref C) = some false)
    (no2_0 : PySem.W.notFirst K C (.type "NoneType") = true)
    (no1_1 : PySem.W.kitOne K (.type "bool") (.ref C) = some false)
    (no2_1 : PySem.W.notFirst K C (.type "bool") = true)
    (no1_2 : PySem.W.kitOne K (.type "str") (.ref C) = some false)
    (no2_2 : PySem.W.notFirst K C (.type "str") = true)
    (no1_3 : PySem.W.kitOne K (.type "int") (.ref C) = some false)
    (no2_3 : PySem.W.notFirst K C (.type "int") = true)
    (no1_4 : PySem.W.kitOne K (.type "list") (.ref C) = some false)
    (no2_4 : PySem.W.notFirst K C (.type "list") = true)
    (no1_5 : PySem.W.kitOne K (.type "tuple") (.ref C) = some false)
    (no2_5 : PySem.W.notFirst K C (.type "tuple") = true)
    (no1_6 : PySem.W.kitOne K (.type "dict") (.ref C) = some false)
    (no2_6 : PySem.W.notFirst K C (.type "dict") = true)
    (a_law : PySem.W.nsIn K mainGlobals "law" = some (some (.ref f_law)))
    (F_law : Df K "law" "law" s_law [] f_law fd_law)
    (a_pot : PySem.W.nsIn K mainGlobals "_law_pot" = some (some (.ref f_pot)))
    (F_pot : Df K "_law_pot" "_law_pot" s_pot [] f_pot fd_pot)
    (a_right : PySem.W.nsIn K mainGlobals "_law_right" = some (some (.ref f_right)))
    (F_right : Df K "_law_right" "_law_right" s_right [] f_right fd_right)
    (a_draw : PySem.W.nsIn K mainGlobals "_law_draw" = some (some (.ref f_draw)))
    (F_draw : Df K "_law_draw" "_law_draw" s_draw [] f_draw fd_draw)
    (a_rounds : PySem.W.nsIn K mainGlobals "_law_rounds" = some (some (.ref f_rounds)))
    (F_rounds : Df K "_law_rounds" "_law_rounds" s_rounds [] f_rounds fd_rounds)
    (a_pick : PySem.W.nsIn K mainGlobals "_law_pick" = some (some (.ref f_pick)))
    (F_pick : Df K "_law_pick" "_law_pick" s_pick [] f_pick fd_pick)
    (a_mixed : PySem.W.nsIn K mainGlobals "_law_mixed" = some (some (.ref f_mixed)))
    (F_mixed : Df K "_law_mixed" "_law_mixed" s_mixed [] f_mixed fd_mixed)
    (a_lprod : PySem.W.nsIn K mainGlobals "_law_product" = some (some (.ref f_lprod)))
    (F_lprod : Df K "_law_product" "_law_product" s_lprod [] f_lprod fd_lprod)
    (a_lplan2 : PySem.W.nsIn K mainGlobals "_law_plan" = some (some (.ref f_lplan2)))
    (F_lplan2 : Df K "_law_plan" "_law_plan" s_lplan2 [] f_lplan2 fd_lplan2)
    (a_init2 : PySem.W.findIn K (.ref C) "__init__" = some (some (.ref f_init2)))
    (i_init2 : PySem.W.isFn K (.ref f_init2) = true)
    (F_init2 : Df K "__init__" "Plan.__init__" s_init2 [] f_init2 fd_init2)
    (a_wantrounds : PySem.W.nsIn K mainGlobals "want_rounds" = some (some (.ref f_wantrounds)))
    (F_wantrounds : Df K "want_rounds" "want_rounds" s_wantrounds [] f_wantrounds fd_wantrounds)
    (a_isround : PySem.W.nsIn K mainGlobals "is_round" = some (some (.ref f_isround)))
    (F_isround : Df K "is_round" "is_round" s_isround [] f_isround fd_isround)
    (a_islist : PySem.W.nsIn K mainGlobals "is_list" = some (some (.ref f_islist)))
    (F_islist : Df K "is_list" "is_list" s_islist [] f_islist fd_islist)
    (a_iscut : PySem.W.nsIn K mainGlobals "is_cut" = some (some (.ref f_iscut)))
    (F_iscut : Df K "is_cut" "is_cut" s_iscut [] f_iscut fd_iscut)
    (a_isaxis : PySem.W.nsIn K mainGlobals "is_axis" = some (some (.ref f_isaxis)))
    (F_isaxis : Df K "is_axis" "is_axis" s_isaxis [] f_isaxis fd_isaxis)
    (a_areparts : PySem.W.nsIn K mainGlobals "are_parts" = some (some (.ref f_areparts)))
    (F_areparts : Df K "are_parts" "are_parts" s_areparts [] f_areparts fd_areparts)
    (a_isint : PySem.W.nsIn K mainGlobals "is_integer" = some (some (.ref f_isint)))
    (F_isint : Df K "is_integer" "is_integer" s_isint [] f_isint fd_isint)
    (a_along1 : PySem.W.nsIn K mainGlobals "parts_along" = some (some (.ref f_along1)))
    (F_along1 : Df K "parts_along" "parts_along" s_along1 [] f_along1 fd_along1)
    (a_prod : PySem.W.findIn K (.ref C) "product_of" = some (some (.ref f_prod)))
    (i_prod : PySem.W.isFn K (.ref f_prod) = true)
    (F_prod : Df K "product_of" "Plan.product_of" s_prod [] f_prod fd_prod)
    (a_tright : PySem.W.nsIn K mainGlobals "_law_told_right" = some (some (.ref f_tright)))
    (F_tright : Df K "_law_told_right" "_law_told_right" s_tright [] f_tright fd_tright)
    (a_rright : PySem.W.nsIn K mainGlobals "_law_round_right" = some (some (.ref f_rright)))
    (F_rright : Df K "_law_round_right" "_law_round_right" s_rright [] f_rright fd_rright)
    (a_lparts : PySem.W.nsIn K mainGlobals "_law_parts" = some (some (.ref f_lparts)))
    (F_lparts : Df K "_law_parts" "_law_parts" s_lparts [] f_lparts fd_lparts)
    (a_lplace : PySem.W.nsIn K mainGlobals "_law_place" = some (some (.ref f_lplace)))
    (F_lplace : Df K "_law_place" "_law_place" s_lplace [] f_lplace fd_lplace)
    (a_signs : PySem.W.findIn K (.ref C) "signs" = some (some (.ref f_signs)))
    (i_signs : PySem.W.isFn K (.ref f_signs) = true)
    (F_signs : Df K "signs" "Plan.signs" s_signs [] f_signs fd_signs)
    (a_parts : PySem.W.findIn K (.ref C) "parts" = some (some (.ref f_parts)))
    (i_parts : PySem.W.isFn K (.ref f_parts) = true)
    (F_parts : Df K "parts" "Plan.parts" s_parts [] f_parts fd_parts)
    (a_wantphase : PySem.W.nsIn K mainGlobals "want_phase" = some (some (.ref f_wantphase)))
    (F_wantphase : Df K "want_phase" "want_phase" s_wantphase [] f_wantphase fd_wantphase)
    (a_count : PySem.W.nsIn K mainGlobals "is_count" = some (some (.ref f_count)))
    (F_count : Df K "is_count" "is_count" s_count [] f_count fd_count)
    (a_plen : PySem.W.findIn K (.ref C) "__len__" = some (some (.ref f_plen)))
    (i_plen : PySem.W.isFn K (.ref f_plen) = true)
    (F_plen : Df K "__len__" "Plan.__len__" s_plen [] f_plen fd_plen)
    (a_placeof : PySem.W.findIn K (.ref C) "place_of" = some (some (.ref f_placeof)))
    (i_placeof : PySem.W.isFn K (.ref f_placeof) = true)
    (F_placeof : Df K "place_of" "Plan.place_of" s_placeof [] f_placeof fd_placeof)
    (a_wantsign : PySem.W.nsIn K mainGlobals "want_sign" = some (some (.ref f_wantsign)))
    (F_wantsign : Df K "want_sign" "want_sign" s_wantsign [] f_wantsign fd_wantsign)
    (a_placein : PySem.W.nsIn K mainGlobals "place_in" = some (some (.ref f_placein)))
    (F_placein : Df K "place_in" "place_in" s_placein [] f_placein fd_placein)
    (a_along : PySem.W.nsIn K mainGlobals "along" = some (some (.ref f_along)))
    (F_along : Df K "along" "along" s_along [] f_along fd_along)
    (a_signat : PySem.W.findIn K (.ref C) "sign_at" = some (some (.ref f_signat)))
    (i_signat : PySem.W.isFn K (.ref f_signat) = true)
    (F_signat : Df K "sign_at" "Plan.sign_at" s_signat [] f_signat fd_signat)
    (a_signin : PySem.W.nsIn K mainGlobals "sign_in" = some (some (.ref f_signin)))
    (F_signin : Df K "sign_in" "sign_in" s_signin [] f_signin fd_signin)
    (a_cright : PySem.W.nsIn K mainGlobals "_law_counts_right" = some (some (.ref f_cright)))
    (F_cright : Df K "_law_counts_right" "_law_counts_right" s_cright [] f_cright fd_cright)
    (a_pcounts : PySem.W.findIn K (.ref C) "counts" = some (some (.ref f_pcounts)))
    (i_pcounts : PySem.W.isFn K (.ref f_pcounts) = true)
    (F_pcounts : Df K "counts" "Plan.counts" s_pcounts [] f_pcounts fd_pcounts)
    (a_wantfine : PySem.W.nsIn K mainGlobals "want_fineness" = some (some (.ref f_wantfine)))
    (F_wantfine : Df K "want_fineness" "want_fineness" s_wantfine [] f_wantfine fd_wantfine)
    (a_pphase : PySem.W.findIn K (.ref C) "phase" = some (some (.ref f_pphase)))
    (i_pphase : PySem.W.isFn K (.ref f_pphase) = true)
    (F_pphase : Df K "phase" "Plan.phase" s_pphase [] f_pphase fd_pphase)
    (a_pgrowth : PySem.W.findIn K (.ref C) "growth" = some (some (.ref p_pgrowth)))
    (spx_pgrowth : PySem.W.specialIn K (.ref p_pgrowth) "__get__" = some (some (.builtin "property.__get__")))
    (t_pgrowth : PySem.W.takesIn K (.ref p_pgrowth) = some true)
    (e_pgrowth : PySem.W.recIn K p_pgrowth "property" = some (.ref f_pgrowth :: r_pgrowth))
    (F_pgrowth : Df K "growth" "Plan.growth" s_pgrowth [] f_pgrowth fd_pgrowth)
    (a_prounds : PySem.W.findIn K (.ref C) "rounds" = some (some (.ref f_prounds)))
    (i_prounds : PySem.W.isFn K (.ref f_prounds) = true)
    (F_prounds : Df K "rounds" "Plan.rounds" s_prounds [] f_prounds fd_prounds)
    (a_prepr : PySem.W.findIn K (.ref C) "__repr__" = some (some (.ref f_prepr)))
    (i_prepr : PySem.W.isFn K (.ref f_prepr) = true)
    (F_prepr : Df K "__repr__" "Plan.__repr__" s_prepr [] f_prepr fd_prepr)
    (a_turight : PySem.W.nsIn K mainGlobals "_law_turned_right" = some (some (.ref f_turight)))
    (F_turight : Df K "_law_turned_right" "_law_turned_right" s_turight [] f_turight fd_turight)
    (a_turned : PySem.W.findIn K (.ref C) "turned" = some (some (.ref f_turned)))
    (i_turned : PySem.W.isFn K (.ref f_turned) = true)
    (F_turned : Df K "turned" "Plan.turned" s_turned [] f_turned fd_turned)
    (a_init : PySem.W.findIn K (.ref C) "__init__" = some (some (.ref f_init)))
    (i_init : PySem.W.isFn K (.ref f_init) = true)
    (F_init : Df K "__init__" "Plan.__init__" s_init [] f_init fd_init)
    (a_peq : PySem.W.findIn K (.ref C) "__eq__" = some (some (.ref f_peq)))
    (i_peq : PySem.W.isFn K (.ref f_peq) = true)
    (F_peq : Df K "__eq__" "Plan.__eq__" s_peq [] f_peq fd_peq)
    (a_lothers : PySem.W.nsIn K mainGlobals "_law_others" = some (some (.ref f_lothers)))
    (F_lothers : Df K "_law_others" "_law_others" s_lothers [] f_lothers fd_lothers)
    (a_eqright : PySem.W.nsIn K mainGlobals "_law_equal_right" = some (some (.ref f_eqright)))
    (F_eqright : Df K "_law_equal_right" "_law_equal_right" s_eqright [] f_eqright fd_eqright)
    (a_lplan : PySem.W.nsIn K mainGlobals "_law_plan" = some (some (.ref f_lplan)))
    (F_lplan : Df K "_law_plan" "_law_plan" s_lplan [] f_lplan fd_lplan)
    (a_peqx : PySem.W.findIn K (.ref C) "__eq__" = some (some (.ref f_peqx)))
    (i_peqx : PySem.W.isFn K (.ref f_peqx) = true)
    (F_peqx : Df K "__eq__" "Plan.__eq__" s_peqx [] f_peqx fd_peqx)
    (a_kright : PySem.W.nsIn K mainGlobals "_law_known_right" = some (some (.ref f_kright)))
    (F_kright : Df K "_law_known_right" "_law_known_right" s_kright [] f_kright fd_kright)
    (g_psquares : PySem.W.specialIn K (.ref C) "__getattribute__" = some (some (.builtin "type.__getattribute__")))
    (d_psquares : PySem.W.readsIn K C (.type "type") = true)
    (a_psquares : PySem.W.findCls K (.ref C) (.type "type") "squares" = some (.get (.builtin "classmethod.__get__") (.ref p_psquares) .none (.ref C)))
    (e_psquares : PySem.W.recIn K p_psquares "classmethod" = some (.ref f_psquares :: r_psquares))
    (fi_psquares : PySem.W.fnIn K f_psquares = true)
    (F_psquares : Df K "squares" "Plan.squares" s_psquares [] f_psquares fd_psquares)
    (g_pcodes : PySem.W.specialIn K (.ref C) "__getattribute__" = some (some (.builtin "type.__getattribute__")))
    (d_pcodes : PySem.W.readsIn K C (.type "type") = true)
    (a_pcodes : PySem.W.findCls K (.ref C) (.type "type") "codes" = some (.get (.builtin "classmethod.__get__") (.ref p_pcodes) .none (.ref C)))
    (e_pcodes : PySem.W.recIn K p_pcodes "classmethod" = some (.ref f_pcodes :: r_pcodes))
    (fi_pcodes : PySem.W.fnIn K f_pcodes = true)
    (F_pcodes : Df K "codes" "Plan.codes" s_pcodes [] f_pcodes fd_pcodes) :
    ∃ fd : FuncData, (∀ (s : Shared) (v : Value), BindsTo s fd ⟨[v], []⟩ [("_law_script", v)]) ∧ ∀ base : Heap, K.In base → base.Ns mainGlobals mg → FnG P w K mg base 12 fa fd ["_law_script"] (sp_law K) := by
  have B : Blt mg := ⟨PySem.W.mg_none_of X Gn z_len, PySem.W.mg_none_of X Gn z_abs, PySem.W.mg_none_of X Gn z_max, PySem.W.mg_none_of X Gn z_min, PySem.W.mg_none_of X Gn z_int, PySem.W.mg_none_of X Gn z_bool, PySem.W.mg_none_of X Gn z_str, PySem.W.mg_none_of X Gn z_repr, PySem.W.mg_none_of X Gn z_all, PySem.W.mg_none_of X Gn z_any, PySem.W.mg_none_of X Gn z_range, PySem.W.mg_none_of X Gn z_divmod, PySem.W.mg_none_of X Gn z_isinstance, PySem.W.mg_none_of X Gn z_list, PySem.W.mg_none_of X Gn z_tuple, PySem.W.mg_none_of X Gn z_dict, PySem.W.mg_none_of X Gn z_enumerate, PySem.W.mg_none_of X Gn z_zip, PySem.W.mg_none_of X Gn z_sorted, PySem.W.mg_none_of X Gn z_sum, PySem.W.mg_none_of X Gn z_type⟩
  have I_C : ClsI K C := ⟨⟨pg_C, hd_C, po_C, sa_C⟩, ha_C, hn, htk, hm_C, me_C, ne_C⟩
  have G : PlG K mg C AX := ⟨I_C, PySem.W.mg_of X Gn g_C, n_own_rounds, n_own_parts, n_own_growth, ⟨_, PySem.W.mg_of X Gn v_EAST⟩, ⟨_, PySem.W.mg_of X Gn v_NORTH⟩, PySem.W.mg_of X Gn v_AXES, fun H => .inr ⟨_, _, _, l_AX, rfl, rfl, by show 2 ≤ sizeLine; decide, .cons ⟨_, rfl⟩ (.cons ⟨_, rfl⟩ .nil)⟩, ⟨_, l_AX, rfl, rfl⟩, ⟨_, PySem.W.mg_of X Gn v_FEWEST_PARTS⟩, ⟨_, PySem.W.mg_of X Gn v_MOST_PARTS⟩, ⟨_, PySem.W.mg_of X Gn v_MOST_FINE⟩, ⟨_, _, ⟨rd_C, ga_C⟩, ⟨cv_MOST_ROUNDS, ⟨_, rfl⟩⟩⟩, ⟨_, _, ⟨rd_C, ga_C⟩, ⟨cv_MOST_CUTS, ⟨_, rfl⟩⟩⟩, ⟨_, _, ⟨rd_C, ga_C⟩, ⟨cv_MOST_SIGNS, ⟨_, rfl⟩⟩⟩⟩
  have NP : NoP K C := ⟨fun t ht => by
    simp only [List.mem_cons, List.not_mem_nil, or_false] at ht
    rcases ht with rfl | rfl | rfl | rfl | rfl | rfl | rfl
    · exact ⟨no1_0, no2_0⟩
    · exact ⟨no1_1, no2_1⟩
    · exact ⟨no1_2, no2_2⟩
    · exact ⟨no1_3, no2_3⟩
    · exact ⟨no1_4, no2_4⟩
    · exact ⟨no1_5, no2_5⟩
    · exact ⟨no1_6, no2_6⟩⟩
  have P_pgrowth : PropOf K C "growth" p_pgrowth f_pgrowth := ⟨a_pgrowth, spx_pgrowth, t_pgrowth, _, e_pgrowth⟩
  have CR_psquares : ClX.CRead K C (.type "type") := ⟨d_psquares, g_psquares⟩
  have CM_psquares : ClX.CMet K C (.type "type") "squares" p_psquares f_psquares := ⟨a_psquares, ⟨_, e_psquares⟩, fi_psquares⟩
  have CR_pcodes : ClX.CRead K C (.type "type") := ⟨d_pcodes, g_pcodes⟩
  have CM_pcodes : ClX.CMet K C (.type "type") "codes" p_pcodes f_pcodes := ⟨a_pcodes, ⟨_, e_pcodes⟩, fi_pcodes⟩
  have b_pot := F_pot.bind (ps := ["_law_script", "_law_k"]) fun _ _ _ _ _ _ us hl => match us, hl with | [_, _], _ => rfl
  have b_right := F_right.bind (ps := ["_law_pot_here"]) fun _ _ _ _ _ _ us hl => match us, hl with | [_], _ => rfl
  have b_draw := F_draw.bind (ps := ["_law_pot_here", "_law_size"]) fun _ _ _ _ _ _ us hl => match us, hl with | [_, _], _ => rfl
  have b_rounds := F_rounds.bind (ps := ["_law_pot_here"]) fun _ _ _ _ _ _ us hl => match us, hl with | [_], _ => rfl
  have b_pick := F_pick.bind (ps := ["_law_pot_here", "_law_some"]) fun _ _ _ _ _ _ us hl => match us, hl with | [_, _], _ => rfl
  have b_mixed := F_mixed.bind (ps := ["_law_pot_here", "_law_some"]) fun _ _ _ _ _ _ us hl => match us, hl with | [_, _], _ => rfl
  have b_lprod := F_lprod.bind (ps := ["_law_row"]) fun _ _ _ _ _ _ us hl => match us, hl with | [_], _ => rfl
  have b_lplan2 := F_lplan2.bind (ps := ["_law_rows"]) fun _ _ _ _ _ _ us hl => match us, hl with | [_], _ => rfl
  have b_wantrounds := F_wantrounds.bind (ps := ["rounds"]) fun _ _ _ _ _ _ us hl => match us, hl with | [_], _ => rfl
  have b_isround := F_isround.bind (ps := ["value"]) fun _ _ _ _ _ _ us hl => match us, hl with | [_], _ => rfl
  have b_islist := F_islist.bind (ps := ["value"]) fun _ _ _ _ _ _ us hl => match us, hl with | [_], _ => rfl
  have b_iscut := F_iscut.bind (ps := ["value"]) fun _ _ _ _ _ _ us hl => match us, hl with | [_], _ => rfl
  have b_isaxis := F_isaxis.bind (ps := ["value"]) fun _ _ _ _ _ _ us hl => match us, hl with | [_], _ => rfl
  have b_areparts := F_areparts.bind (ps := ["value"]) fun _ _ _ _ _ _ us hl => match us, hl with | [_], _ => rfl
  have b_isint := F_isint.bind (ps := ["value"]) fun _ _ _ _ _ _ us hl => match us, hl with | [_], _ => rfl
  have b_along1 := F_along1.bind (ps := ["cuts", "axis"]) fun _ _ _ _ _ _ us hl => match us, hl with | [_, _], _ => rfl
  have b_prod := F_prod.bind (ps := ["self", "many"]) fun _ _ _ _ _ _ us hl => match us, hl with | [_, _], _ => rfl
  have b_tright := F_tright.bind (ps := ["_law_made", "_law_rows"]) fun _ _ _ _ _ _ us hl => match us, hl with | [_, _], _ => rfl
  have b_rright := F_rright.bind (ps := ["_law_made", "_law_rows", "_law_k"]) fun _ _ _ _ _ _ us hl => match us, hl with | [_, _, _], _ => rfl
  have b_lparts := F_lparts.bind (ps := ["_law_row"]) fun _ _ _ _ _ _ us hl => match us, hl with | [_], _ => rfl
  have b_lplace := F_lplace.bind (ps := ["_law_row", "_law_glyph"]) fun _ _ _ _ _ _ us hl => match us, hl with | [_, _], _ => rfl
  have b_signs := F_signs.bind (ps := ["self", "phase"]) fun _ _ _ _ _ _ us hl => match us, hl with | [_, _], _ => rfl
  have b_parts := F_parts.bind (ps := ["self", "phase"]) fun _ _ _ _ _ _ us hl => match us, hl with | [_, _], _ => rfl
  have b_wantphase := F_wantphase.bind (ps := ["plan", "value"]) fun _ _ _ _ _ _ us hl => match us, hl with | [_, _], _ => rfl
  have b_count := F_count.bind (ps := ["value"]) fun _ _ _ _ _ _ us hl => match us, hl with | [_], _ => rfl
  have b_plen := F_plen.bind (ps := ["self"]) fun _ _ _ _ _ _ us hl => match us, hl with | [_], _ => rfl
  have b_placeof := F_placeof.bind (ps := ["self", "phase", "sign"]) fun _ _ _ _ _ _ us hl => match us, hl with | [_, _, _], _ => rfl
  have b_wantsign := F_wantsign.bind (ps := ["plan", "phase", "value"]) fun _ _ _ _ _ _ us hl => match us, hl with | [_, _, _], _ => rfl
  have b_placein := F_placein.bind (ps := ["cuts", "sign"]) fun _ _ _ _ _ _ us hl => match us, hl with | [_, _], _ => rfl
  have b_along := F_along.bind (ps := ["cuts", "sign", "axis"]) fun _ _ _ _ _ _ us hl => match us, hl with | [_, _, _], _ => rfl
  have b_signat := F_signat.bind (ps := ["self", "phase", "pair"]) fun _ _ _ _ _ _ us hl => match us, hl with | [_, _, _], _ => rfl
  have b_signin := F_signin.bind (ps := ["cuts", "pair"]) fun _ _ _ _ _ _ us hl => match us, hl with | [_, _], _ => rfl
  have b_cright := F_cright.bind (ps := ["_law_made", "_law_rows"]) fun _ _ _ _ _ _ us hl => match us, hl with | [_, _], _ => rfl
  have b_pcounts := F_pcounts.bind (ps := ["self", "f"]) fun _ _ _ _ _ _ us hl => match us, hl with | [_, _], _ => rfl
  have b_wantfine := F_wantfine.bind (ps := ["value"]) fun _ _ _ _ _ _ us hl => match us, hl with | [_], _ => rfl
  have b_pphase := F_pphase.bind (ps := ["self", "f"]) fun _ _ _ _ _ _ us hl => match us, hl with | [_, _], _ => rfl
  have b_pgrowth := F_pgrowth.bind (ps := ["self"]) fun _ _ _ _ _ _ us hl => match us, hl with | [_], _ => rfl
  have b_prounds := F_prounds.bind (ps := ["self"]) fun _ _ _ _ _ _ us hl => match us, hl with | [_], _ => rfl
  have b_prepr := F_prepr.bind (ps := ["self"]) fun _ _ _ _ _ _ us hl => match us, hl with | [_], _ => rfl
  have b_turight := F_turight.bind (ps := ["_law_made", "_law_rows"]) fun _ _ _ _ _ _ us hl => match us, hl with | [_, _], _ => rfl
  have b_turned := F_turned.bind (ps := ["self"]) fun _ _ _ _ _ _ us hl => match us, hl with | [_], _ => rfl
  have b_peq := F_peq.bind (ps := ["self", "other"]) fun _ _ _ _ _ _ us hl => match us, hl with | [_, _], _ => rfl
  have b_lothers := F_lothers.bind (ps := ["_law_pot_here", "_law_rows"]) fun _ _ _ _ _ _ us hl => match us, hl with | [_, _], _ => rfl
  have b_eqright := F_eqright.bind (ps := ["_law_made", "_law_rows", "_law_more"]) fun _ _ _ _ _ _ us hl => match us, hl with | [_, _, _], _ => rfl
  have b_lplan := F_lplan.bind (ps := ["_law_rows"]) fun _ _ _ _ _ _ us hl => match us, hl with | [_], _ => rfl
  have b_peqx := F_peqx.bind (ps := ["self", "other"]) fun _ _ _ _ _ _ us hl => match us, hl with | [_, _], _ => rfl
  have b_kright := F_kright.bind (ps := ["_law_pot_here"]) fun _ _ _ _ _ _ us hl => match us, hl with | [_], _ => rfl
  have b_psquares := F_psquares.bind (ps := ["cls", "parts"]) fun _ _ _ _ _ _ us hl => match us, hl with | [_, _], _ => rfl
  have b_pcodes := F_pcodes.bind (ps := ["cls"]) fun _ _ _ _ _ _ us hl => match us, hl with | [_], _ => rfl
  have e := hfa.symm.trans (PySem.W.mg_of X Gn a_law)
  cases e
  have hb := FunD.bindsA (ps := ["_law_script"]) F_law fun _ _ _ _ _ _ us hl => match us, hl with | [_], _ => rfl
  refine ⟨fd_law, fun s v => hb s [v] rfl, fun base _ _ => ?_⟩
  have h0_cPot : Ca P w K mg base 1 "_law_pot" (sp_pot K) [] := ⟨_, _, _, _, ok_pot F_pot B, PySem.W.mg_of X Gn a_pot, F_pot.kp, b_pot, .nil⟩
  have h2_cDr : Ca P w K mg base 1 "_law_draw" sp_draw [] := ⟨_, _, _, _, ok_draw F_draw B, PySem.W.mg_of X Gn a_draw, F_draw.kp, b_draw, .nil⟩
  have h4_cPk : Ca P w K mg base 2 "_law_pick" (sp_pick K) [] := ⟨_, _, _, _, ok_pick F_pick B h2_cDr, PySem.W.mg_of X Gn a_pick, F_pick.kp, b_pick, .nil⟩
  have h6_cMx : Ca P w K mg base 2 "_law_mixed" (sp_mixed K) [] := ⟨_, _, _, _, ok_mixed F_mixed B h2_cDr, PySem.W.mg_of X Gn a_mixed, F_mixed.kp, b_mixed, .nil⟩
  have h8_cPd : Ca P w K mg base 1 "_law_product" (sp_lprod K) [] := ⟨_, _, _, _, ok_lprod F_lprod , PySem.W.mg_of X Gn a_lprod, F_lprod.kp, b_lprod, .nil⟩
  have h4_cRo : Ca P w K mg base 3 "_law_rounds" (sp_rounds K) [] := ⟨_, _, _, _, ok_rounds F_rounds B h2_cDr h4_cPk h6_cMx h8_cPd, PySem.W.mg_of X Gn a_rounds, F_rounds.kp, b_rounds, .nil⟩
  have h12_cL : Ca P w K mg base 1 "is_list" (sp_islist K) [] := ⟨_, _, _, _, ok_islist F_islist B, PySem.W.mg_of X Gn a_islist, F_islist.kp, b_islist, .nil⟩
  have h14_cA : Ca P w K mg base 1 "is_axis" sp_isaxis [] := ⟨_, _, _, _, ok_isaxis F_isaxis B G, PySem.W.mg_of X Gn a_isaxis, F_isaxis.kp, b_isaxis, .nil⟩
  have h16_cI : Ca P w K mg base 1 "is_integer" (sp_isint K) [] := ⟨_, _, _, _, ok_isint F_isint B, PySem.W.mg_of X Gn a_isint, F_isint.kp, b_isint, .nil⟩
  have h16_cP : Ca P w K mg base 2 "are_parts" sp_areparts [] := ⟨_, _, _, _, ok_areparts F_areparts G h16_cI, PySem.W.mg_of X Gn a_areparts, F_areparts.kp, b_areparts, .nil⟩
  have h14_cC : Ca P w K mg base 3 "is_cut" (sp_iscut K) [] := ⟨_, _, _, _, ok_iscut F_iscut B h14_cA h16_cP, PySem.W.mg_of X Gn a_iscut, F_iscut.kp, b_iscut, .nil⟩
  have h12_cR : Ca P w K mg base 4 "is_round" (sp_isround K) [] := ⟨_, _, _, _, ok_isround F_isround B G h12_cL h14_cC, PySem.W.mg_of X Gn a_isround, F_isround.kp, b_isround, .nil⟩
  have h24_c1 : Ca P w K mg base 1 "parts_along" (sp_along1 K) [] := ⟨_, _, _, _, ok_along1 F_along1 , PySem.W.mg_of X Gn a_along1, F_along1.kp, b_along1, .nil⟩
  have h12_cWR : Ca P w K mg base 5 "want_rounds" (sp_wantrounds K) [] := ⟨_, _, _, _, ok_wantrounds F_wantrounds B G h12_cR h24_c1, PySem.W.mg_of X Gn a_wantrounds, F_wantrounds.kp, b_wantrounds, .nil⟩
  have h28_cPr : Me P w K mg base 1 C "product_of" (sp_prod K C) [] := ⟨_, _, _, _, I_C.cl, ⟨a_prod, i_prod, F_prod.kp⟩, ok_prod F_prod B G, b_prod, .nil⟩
  have h12_cPl : MaR P w K mg base 6 "Plan" C (spMk2 K C) := ⟨f_init2, ⟨mk_C, a_init2, i_init2, kc_C⟩, ok_init2 F_init2 B G h12_cWR h24_c1 h28_cPr, G.mgC⟩
  have h12_cLp : Ca P w K mg base 8 "_law_plan" (sp_lplan2 K C) [] := ⟨_, _, _, _, ok_lplan2 F_lplan2 B h12_cPl, PySem.W.mg_of X Gn a_lplan2, F_lplan2.kp, b_lplan2, .nil⟩
  have h34_cPts : Ca P w K mg base 2 "_law_parts" (sp_lparts K) [] := ⟨_, _, _, _, ok_lparts F_lparts h8_cPd, PySem.W.mg_of X Gn a_lparts, F_lparts.kp, b_lparts, .nil⟩
  have h36_cPc2 : Ca P w K mg base 1 "_law_place" (sp_lplace K) [] := ⟨_, _, _, _, ok_lplace F_lplace B, PySem.W.mg_of X Gn a_lplace, F_lplace.kp, b_lplace, .nil⟩
  have h38_cCo : Ca P w K mg base 2 "is_count" (sp_count K) [] := ⟨_, _, _, _, ok_count F_count h16_cI, PySem.W.mg_of X Gn a_count, F_count.kp, b_count, .nil⟩
  have h40_cLen : Op2 P w K mg base 1 C "__len__" (sp_plen K C) := ⟨_, _, _, ok_plen F_plen B G, b_plen, a_plen, i_plen⟩
  have h38_cWP : Ca P w K mg base 3 "want_phase" (sp_wantphase K C) [] := ⟨_, _, _, _, ok_wantphase F_wantphase B h38_cCo h40_cLen, PySem.W.mg_of X Gn a_wantphase, F_wantphase.kp, b_wantphase, .nil⟩
  have h38_cPa : Me P w K mg base 4 C "parts" (sp_parts K C) [] := ⟨_, _, _, _, I_C.cl, ⟨a_parts, i_parts, F_parts.kp⟩, ok_parts F_parts G h38_cWP, b_parts, .nil⟩
  have h38_cSi : Me P w K mg base 5 C "signs" (sp_signs K C) [] := ⟨_, _, _, _, I_C.cl, ⟨a_signs, i_signs, F_signs.kp⟩, ok_signs F_signs h38_cPa, b_signs, .nil⟩
  have h48_cSiK : MeK P w K mg base 5 C "signs" (sp_signs K C) ["phase"] kId := ⟨_, _, _, _, I_C.cl, ⟨a_signs, i_signs, F_signs.kp⟩, ok_signs F_signs h38_cPa, F_signs.kbn (ps := ["self", "phase"]) 1 ["phase"] kId kId_rel fun _ _ _ _ _ _ us ws h1 h2 => match us, ws, h1, h2 with | [_], [_], _, _ => rfl⟩
  have h49_cPaK : MeK P w K mg base 4 C "parts" (sp_parts K C) ["phase"] kId := ⟨_, _, _, _, I_C.cl, ⟨a_parts, i_parts, F_parts.kp⟩, ok_parts F_parts G h38_cWP, F_parts.kbn (ps := ["self", "phase"]) 1 ["phase"] kId kId_rel fun _ _ _ _ _ _ us ws h1 h2 => match us, ws, h1, h2 with | [_], [_], _, _ => rfl⟩
  have h50_cWS : Ca P w K mg base 6 "want_sign" (sp_wantsign K C) [] := ⟨_, _, _, _, ok_wantsign F_wantsign h38_cCo h38_cSi, PySem.W.mg_of X Gn a_wantsign, F_wantsign.kp, b_wantsign, .nil⟩
  have h52_cAl : Ca P w K mg base 1 "along" (sp_along K) [] := ⟨_, _, _, _, ok_along F_along , PySem.W.mg_of X Gn a_along, F_along.kp, b_along, .nil⟩
  have h52_cPi : Ca P w K mg base 2 "place_in" (sp_placein K) [] := ⟨_, _, _, _, ok_placein F_placein G h52_cAl, PySem.W.mg_of X Gn a_placein, F_placein.kp, b_placein, .nil⟩
  have h50_cPo : Me P w K mg base 7 C "place_of" (sp_placeof K C) [] := ⟨_, _, _, _, I_C.cl, ⟨a_placeof, i_placeof, F_placeof.kp⟩, ok_placeof F_placeof G h38_cWP h50_cWS h52_cPi, b_placeof, .nil⟩
  have h58_cPoK : MeK P w K mg base 7 C "place_of" (sp_placeof K C) ["sign", "phase"] kSwM := ⟨_, _, _, _, I_C.cl, ⟨a_placeof, i_placeof, F_placeof.kp⟩, ok_placeof F_placeof G h38_cWP h50_cWS h52_cPi, F_placeof.kbn (ps := ["self", "phase", "sign"]) 1 ["sign", "phase"] kSwM kSwM_rel fun _ _ _ _ _ _ us ws h1 h2 => match us, ws, h1, h2 with | [_], [_, _], _, _ => rfl⟩
  have h59_cSin : Ca P w K mg base 1 "sign_in" (sp_signin K) [] := ⟨_, _, _, _, ok_signin F_signin B G, PySem.W.mg_of X Gn a_signin, F_signin.kp, b_signin, .nil⟩
  have h59_cSa : Me P w K mg base 4 C "sign_at" (sp_signat K C) [] := ⟨_, _, _, _, I_C.cl, ⟨a_signat, i_signat, F_signat.kp⟩, ok_signat F_signat B G h38_cWP h38_cCo h59_cSin, b_signat, .nil⟩
  have h63_cSaK : MeK P w K mg base 4 C "sign_at" (sp_signat K C) ["pair", "phase"] kSwM := ⟨_, _, _, _, I_C.cl, ⟨a_signat, i_signat, F_signat.kp⟩, ok_signat F_signat B G h38_cWP h38_cCo h59_cSin, F_signat.kbn (ps := ["self", "phase", "pair"]) 1 ["pair", "phase"] kSwM kSwM_rel fun _ _ _ _ _ _ us ws h1 h2 => match us, ws, h1, h2 with | [_], [_, _], _, _ => rfl⟩
  have h34_cRr : Cg P w K mg base 8 "_law_round_right" ["_law_made", "_law_rows", "_law_k"] (sp_rright K C) [] := ⟨_, _, _, ok_rright F_rright B h8_cPd h34_cPts h36_cPc2 h38_cSi h48_cSiK h38_cPa h49_cPaK h50_cPo h58_cPoK h59_cSa h63_cSaK, PySem.W.mg_of X Gn a_rright, F_rright.kp, b_rright, .nil⟩
  have h66_cWf : Ca P w K mg base 3 "want_fineness" sp_wantfine [] := ⟨_, _, _, _, ok_wantfine F_wantfine G h38_cCo, PySem.W.mg_of X Gn a_wantfine, F_wantfine.kp, b_wantfine, .nil⟩
  have h66_cPc : Me P w K mg base 4 C "counts" (sp_pcounts K C) [] := ⟨_, _, _, _, I_C.cl, ⟨a_pcounts, i_pcounts, F_pcounts.kp⟩, ok_pcounts F_pcounts h66_cWf h28_cPr, b_pcounts, .nil⟩
  have h70_cPcK : MeK P w K mg base 4 C "counts" (sp_pcounts K C) ["f"] kId := ⟨_, _, _, _, I_C.cl, ⟨a_pcounts, i_pcounts, F_pcounts.kp⟩, ok_pcounts F_pcounts h66_cWf h28_cPr, F_pcounts.kbn (ps := ["self", "f"]) 1 ["f"] kId kId_rel fun _ _ _ _ _ _ us ws h1 h2 => match us, ws, h1, h2 with | [_], [_], _, _ => rfl⟩
  have h71_cPhs : Me P w K mg base 4 C "phase" (sp_pphase K C) [] := ⟨_, _, _, _, I_C.cl, ⟨a_pphase, i_pphase, F_pphase.kp⟩, ok_pphase F_pphase B G h66_cWf, b_pphase, .nil⟩
  have h73_cPhsK : MeK P w K mg base 4 C "phase" (sp_pphase K C) ["f"] kId := ⟨_, _, _, _, I_C.cl, ⟨a_pphase, i_pphase, F_pphase.kp⟩, ok_pphase F_pphase B G h66_cWf, F_pphase.kbn (ps := ["self", "f"]) 1 ["f"] kId kId_rel fun _ _ _ _ _ _ us ws h1 h2 => match us, ws, h1, h2 with | [_], [_], _, _ => rfl⟩
  have h74_cGro : Pr P w K mg base 1 C "growth" (sp_pgrowth K C) := ⟨_, _, _, _, I_C.cl, P_pgrowth, ok_pgrowth F_pgrowth G, b_pgrowth⟩
  have h66_cCr : Cg P w K mg base 5 "_law_counts_right" ["_law_made", "_law_rows"] (sp_cright K C) [] := ⟨_, _, _, ok_cright F_cright B h34_cPts h66_cPc h70_cPcK h71_cPhs h73_cPhsK h74_cGro, PySem.W.mg_of X Gn a_cright, F_cright.kp, b_cright, .nil⟩
  have h78_cRds : Me P w K mg base 1 C "rounds" (sp_prounds K C) [] := ⟨_, _, _, _, I_C.cl, ⟨a_prounds, i_prounds, F_prounds.kp⟩, ok_prounds F_prounds B G, b_prounds, .nil⟩
  have h80_cRepr : Op2G P w K mg base 2 C "__repr__" ["self"] (sp_prepr K C) := ⟨_, _, ok_prepr F_prepr B G, b_prepr, a_prepr, i_prepr⟩
  have h34_cTr : Cg P w K mg base 9 "_law_told_right" ["_law_made", "_law_rows"] (sp_tright K C) [] := ⟨_, _, _, ok_tright F_tright B h34_cRr h66_cCr h78_cRds h40_cLen h80_cRepr, PySem.W.mg_of X Gn a_tright, F_tright.kp, b_tright, .nil⟩
  have h84_cPl : MaR P w K mg base 6 "Plan" C (spMk K C) := ⟨f_init, ⟨mk_C, a_init, i_init, kc_C⟩, ok_init F_init B G h12_cWR h24_c1 h28_cPr, G.mgC⟩
  have h84_cTu : Me P w K mg base 8 C "turned" (sp_turned K C) [] := ⟨_, _, _, _, I_C.cl, ⟨a_turned, i_turned, F_turned.kp⟩, ok_turned F_turned G h84_cPl, b_turned, .nil⟩
  have h88_cEqP : Op2 P w K mg base 1 C "__eq__" (sp_peq K C) := ⟨_, _, _, ok_peq F_peq B G, b_peq, a_peq, i_peq⟩
  have h84_cTur : Cg P w K mg base 10 "_law_turned_right" ["_law_made", "_law_rows"] (sp_turight K C) [] := ⟨_, _, _, ok_turight F_turight B G h34_cTr h78_cRds h84_cTu h88_cEqP, PySem.W.mg_of X Gn a_turight, F_turight.kp, b_turight, .nil⟩
  have h92_cOt : Ca P w K mg base 4 "_law_others" (sp_lothers K) [] := ⟨_, _, _, _, ok_lothers F_lothers B h2_cDr h6_cMx h4_cRo, PySem.W.mg_of X Gn a_lothers, F_lothers.kp, b_lothers, .nil⟩
  have h94_cLp : Ca P w K mg base 8 "_law_plan" (sp_lplan K C) [] := ⟨_, _, _, _, ok_lplan F_lplan B h84_cPl, PySem.W.mg_of X Gn a_lplan, F_lplan.kp, b_lplan, .nil⟩
  have h96_cEqX : Op2 P w K mg base 1 C "__eq__" (sp_peqx K C) := ⟨_, _, _, ok_peqx F_peqx B G, b_peqx, a_peqx, i_peqx⟩
  have h94_cEr : Cg P w K mg base 9 "_law_equal_right" ["_law_made", "_law_rows", "_law_more"] (sp_eqright K C) [] := ⟨_, _, _, ok_eqright F_eqright B G NP h94_cLp h78_cRds h88_cEqP h96_cEqX h80_cRepr, PySem.W.mg_of X Gn a_eqright, F_eqright.kp, b_eqright, .nil⟩
  have h100_cSq : CmK P w K mg base 8 C "squares" (sp_psquares K C) 2 [] kId := ⟨_, _, _, _, _, _, CR_psquares, CM_psquares, ok_psquares F_psquares G h16_cP h84_cPl, F_psquares.kbn (ps := ["cls", "parts"]) 2 [] kId kId_rel fun _ _ _ _ _ _ us ws h1 h2 => match us, ws, h1, h2 with | [_, _], [], _, _ => rfl⟩
  have h102_cSqK : CmK P w K mg base 8 C "squares" (sp_psquares K C) 1 ["parts"] kId := ⟨_, _, _, _, _, _, CR_psquares, CM_psquares, ok_psquares F_psquares G h16_cP h84_cPl, F_psquares.kbn (ps := ["cls", "parts"]) 1 ["parts"] kId kId_rel fun _ _ _ _ _ _ us ws h1 h2 => match us, ws, h1, h2 with | [_], [_], _, _ => rfl⟩
  have h103_cCod : CmK P w K mg base 8 C "codes" (sp_pcodes K C) 1 [] kId := ⟨_, _, _, _, _, _, CR_pcodes, CM_pcodes, ok_pcodes F_pcodes B G h84_cPl, F_pcodes.kbn (ps := ["cls"]) 1 [] kId kId_rel fun _ _ _ _ _ _ us ws h1 h2 => match us, ws, h1, h2 with | [_], [], _, _ => rfl⟩
  have h100_cKr : Cg P w K mg base 10 "_law_known_right" ["_law_pot_here"] (sp_kright K C) [] := ⟨_, _, _, ok_kright F_kright B G h2_cDr h34_cTr h100_cSq h102_cSqK h103_cCod h84_cPl h88_cEqP, PySem.W.mg_of X Gn a_kright, F_kright.kp, b_kright, .nil⟩
  have h2_cRight : Cg P w K mg base 11 "_law_right" ["_law_pot_here"] sp_right [] := ⟨_, _, _, ok_right F_right B G h2_cDr h4_cRo h12_cLp h34_cTr h84_cTur h92_cOt h94_cEr h100_cKr, PySem.W.mg_of X Gn a_right, F_right.kp, b_right, .nil⟩
  exact ok_law F_law B h0_cPot h2_cRight
end T
set_option Elab.async false
set_option maxRecDepth 100000
set_option maxHeartbeats 4000000
namespace T
open PySem L2 Mv
open He (ga ma)
open T0 hiding top
theorem facts {P : Program} {w : World} {K : PySem.W.Frag} {h : Heap} {mg : Str → Option Value} {fa : Addr} (X : K.In h) (Gn : h.Ns mainGlobals mg) (hfa : mg "law" = some (.ref fa)) (c : SaM fcs dfs K) :
    ∃ fd : FuncData, (∀ (s : Shared) (v : Value), BindsTo s fd ⟨[v], []⟩ [("_law_script", v)]) ∧ ∀ base : Heap, K.In base → base.Ns mainGlobals mg → FnG P w K mg base 12 fa fd ["_law_script"] (sp_law K) := by
  obtain ⟨t_EAST, v_EAST⟩ := strB_ok (c.fact 37 (f := q37) rfl)
  obtain ⟨t_NORTH, v_NORTH⟩ := strB_ok (c.fact 38 (f := q38) rfl)
  obtain ⟨t_FEWEST_PARTS, v_FEWEST_PARTS⟩ := intB_ok (c.fact 39 (f := q39) rfl)
  obtain ⟨t_MOST_PARTS, v_MOST_PARTS⟩ := intB_ok (c.fact 40 (f := q40) rfl)
  obtain ⟨t_MOST_FINE, v_MOST_FINE⟩ := intB_ok (c.fact 41 (f := q41) rfl)
  obtain ⟨t1AX, t2AX, nAX, sAX, l_AX⟩ := tup2B_ok (c.fact 43 (f := q43) rfl)
  obtain ⟨u1C, cv_MOST_ROUNDS⟩ := cvB_ok (c.fact 47 (f := q47) rfl)
  obtain ⟨u2C, cv_MOST_CUTS⟩ := cvB_ok (c.fact 48 (f := q48) rfl)
  obtain ⟨u3C, cv_MOST_SIGNS⟩ := cvB_ok (c.fact 49 (f := q49) rfl)
  obtain ⟨fd_law, F_law⟩ := c.def_ 0 (d := d_law) rfl
  obtain ⟨fd_pot, F_pot⟩ := c.def_ 1 (d := d_pot) rfl
  obtain ⟨fd_right, F_right⟩ := c.def_ 2 (d := d_right) rfl
  obtain ⟨fd_draw, F_draw⟩ := c.def_ 3 (d := d_draw) rfl
  obtain ⟨fd_rounds, F_rounds⟩ := c.def_ 4 (d := d_rounds) rfl
  obtain ⟨fd_pick, F_pick⟩ := c.def_ 5 (d := d_pick) rfl
  obtain ⟨fd_mixed, F_mixed⟩ := c.def_ 6 (d := d_mixed) rfl
  obtain ⟨fd_lprod, F_lprod⟩ := c.def_ 7 (d := d_lprod) rfl
  obtain ⟨fd_lplan2, F_lplan2⟩ := c.def_ 8 (d := d_lplan2) rfl
  obtain ⟨fd_init2, F_init2⟩ := c.def_ 9 (d := d_init2) rfl
  obtain ⟨fd_wantrounds, F_wantrounds⟩ := c.def_ 10 (d := d_wantrounds) rfl
  obtain ⟨fd_isround, F_isround⟩ := c.def_ 11 (d := d_isround) rfl
  obtain ⟨fd_islist, F_islist⟩ := c.def_ 12 (d := d_islist) rfl
  obtain ⟨fd_iscut, F_iscut⟩ := c.def_ 13 (d := d_iscut) rfl
  obtain ⟨fd_isaxis, F_isaxis⟩ := c.def_ 14 (d := d_isaxis) rfl
  obtain ⟨fd_areparts, F_areparts⟩ := c.def_ 15 (d := d_areparts) rfl
  obtain ⟨fd_isint, F_isint⟩ := c.def_ 16 (d := d_isint) rfl
  obtain ⟨fd_along1, F_along1⟩ := c.def_ 17 (d := d_along1) rfl
  obtain ⟨fd_prod, F_prod⟩ := c.def_ 18 (d := d_prod) rfl
  obtain ⟨fd_tright, F_tright⟩ := c.def_ 19 (d := d_tright) rfl
  obtain ⟨fd_rright, F_rright⟩ := c.def_ 20 (d := d_rright) rfl
  obtain ⟨fd_lparts, F_lparts⟩ := c.def_ 21 (d := d_lparts) rfl
  obtain ⟨fd_lplace, F_lplace⟩ := c.def_ 22 (d := d_lplace) rfl
  obtain ⟨fd_signs, F_signs⟩ := c.def_ 23 (d := d_signs) rfl
  obtain ⟨fd_parts, F_parts⟩ := c.def_ 24 (d := d_parts) rfl
  obtain ⟨fd_wantphase, F_wantphase⟩ := c.def_ 25 (d := d_wantphase) rfl
  obtain ⟨fd_count, F_count⟩ := c.def_ 26 (d := d_count) rfl
  obtain ⟨fd_plen, F_plen⟩ := c.def_ 27 (d := d_plen) rfl
  obtain ⟨fd_placeof, F_placeof⟩ := c.def_ 28 (d := d_placeof) rfl
  obtain ⟨fd_wantsign, F_wantsign⟩ := c.def_ 29 (d := d_wantsign) rfl
  obtain ⟨fd_placein, F_placein⟩ := c.def_ 30 (d := d_placein) rfl
  obtain ⟨fd_along, F_along⟩ := c.def_ 31 (d := d_along) rfl
  obtain ⟨fd_signat, F_signat⟩ := c.def_ 32 (d := d_signat) rfl
  obtain ⟨fd_signin, F_signin⟩ := c.def_ 33 (d := d_signin) rfl
  obtain ⟨fd_cright, F_cright⟩ := c.def_ 34 (d := d_cright) rfl
  obtain ⟨fd_pcounts, F_pcounts⟩ := c.def_ 35 (d := d_pcounts) rfl
  obtain ⟨fd_wantfine, F_wantfine⟩ := c.def_ 36 (d := d_wantfine) rfl
  obtain ⟨fd_pphase, F_pphase⟩ := c.def_ 37 (d := d_pphase) rfl
  obtain ⟨r_pgrowth, e_pgrowth⟩ := recB_ok (c.fact 114 (f := q114) rfl)
  obtain ⟨fd_pgrowth, F_pgrowth⟩ := c.def_ 38 (d := d_pgrowth) rfl
  obtain ⟨fd_prounds, F_prounds⟩ := c.def_ 39 (d := d_prounds) rfl
  obtain ⟨fd_prepr, F_prepr⟩ := c.def_ 40 (d := d_prepr) rfl
  obtain ⟨fd_turight, F_turight⟩ := c.def_ 41 (d := d_turight) rfl
  obtain ⟨fd_turned, F_turned⟩ := c.def_ 42 (d := d_turned) rfl
  obtain ⟨fd_init, F_init⟩ := c.def_ 43 (d := d_init) rfl
  obtain ⟨fd_peq, F_peq⟩ := c.def_ 44 (d := d_peq) rfl
  obtain ⟨fd_lothers, F_lothers⟩ := c.def_ 45 (d := d_lothers) rfl
  obtain ⟨fd_eqright, F_eqright⟩ := c.def_ 46 (d := d_eqright) rfl
  obtain ⟨fd_lplan, F_lplan⟩ := c.def_ 47 (d := d_lplan) rfl
  obtain ⟨fd_peqx, F_peqx⟩ := c.def_ 48 (d := d_peqx) rfl
  obtain ⟨fd_kright, F_kright⟩ := c.def_ 49 (d := d_kright) rfl
  obtain ⟨r_psquares, e_psquares⟩ := recB_ok (c.fact 135 (f := q135) rfl)
  obtain ⟨fd_psquares, F_psquares⟩ := c.def_ 50 (d := d_psquares) rfl
  obtain ⟨r_pcodes, e_pcodes⟩ := recB_ok (c.fact 140 (f := q140) rfl)
  obtain ⟨fd_pcodes, F_pcodes⟩ := c.def_ 51 (d := d_pcodes) rfl
  exact all_mk (P := P) (w := w) X Gn hfa (C := (ga K "Plan")) (AX := (ga K "AXES")) (f_law := (ga K "law")) (f_pot := (ga K "_law_pot")) (f_right := (ga K "_law_right")) (f_draw := (ga K "_law_draw")) (f_rounds := (ga K "_law_rounds")) (f_pick := (ga K "_law_pick")) (f_mixed := (ga K "_law_mixed")) (f_lprod := (ga K "_law_product")) (f_lplan2 := (ga K "_law_plan")) (f_init2 := (ma K (ga K "Plan") "__init__")) (f_wantrounds := (ga K "want_rounds")) (f_isround := (ga K "is_round")) (f_islist := (ga K "is_list")) (f_iscut := (ga K "is_cut")) (f_isaxis := (ga K "is_axis")) (f_areparts := (ga K "are_parts")) (f_isint := (ga K "is_integer")) (f_along1 := (ga K "parts_along")) (f_prod := (ma K (ga K "Plan") "product_of")) (f_tright := (ga K "_law_told_right")) (f_rright := (ga K "_law_round_right")) (f_lparts := (ga K "_law_parts")) (f_lplace := (ga K "_law_place")) (f_signs := (ma K (ga K "Plan") "signs")) (f_parts := (ma K (ga K "Plan") "parts")) (f_wantphase := (ga K "want_phase")) (f_count := (ga K "is_count")) (f_plen := (ma K (ga K "Plan") "__len__")) (f_placeof := (ma K (ga K "Plan") "place_of")) (f_wantsign := (ga K "want_sign")) (f_placein := (ga K "place_in")) (f_along := (ga K "along")) (f_signat := (ma K (ga K "Plan") "sign_at")) (f_signin := (ga K "sign_in")) (f_cright := (ga K "_law_counts_right")) (f_pcounts := (ma K (ga K "Plan") "counts")) (f_wantfine := (ga K "want_fineness")) (f_pphase := (ma K (ga K "Plan") "phase")) (p_pgrowth := (ma K (ga K "Plan") "growth")) (f_pgrowth := (recAd K (ma K (ga K "Plan") "growth") "property")) (f_prounds := (ma K (ga K "Plan") "rounds")) (f_prepr := (ma K (ga K "Plan") "__repr__")) (f_turight := (ga K "_law_turned_right")) (f_turned := (ma K (ga K "Plan") "turned")) (f_init := (ma K (ga K "Plan") "__init__")) (f_peq := (ma K (ga K "Plan") "__eq__")) (f_lothers := (ga K "_law_others")) (f_eqright := (ga K "_law_equal_right")) (f_lplan := (ga K "_law_plan")) (f_peqx := (ma K (ga K "Plan") "__eq__")) (f_kright := (ga K "_law_known_right")) (p_psquares := (sgAd (PySem.W.findCls K (.ref (ga K "Plan")) (.type "type") "squares"))) (f_psquares := (recAd K (sgAd (PySem.W.findCls K (.ref (ga K "Plan")) (.type "type") "squares")) "classmethod")) (p_pcodes := (sgAd (PySem.W.findCls K (.ref (ga K "Plan")) (.type "type") "codes"))) (f_pcodes := (recAd K (sgAd (PySem.W.findCls K (.ref (ga K "Plan")) (.type "type") "codes")) "classmethod"))
    (of_decide_eq_true (p := PySem.W.specialIn K (.builtin "object.__class__") "__get__" = some (some (.builtin "getset_descriptor.__get__"))) (c.fact 0 (f := q0) rfl))
    (of_decide_eq_true (p := PySem.W.takesIn K (.builtin "object.__class__") = some true) (c.fact 1 (f := q1) rfl))
    (of_decide_eq_true (p := PySem.W.nsIn K mainGlobals "len" = some none) (c.fact 2 (f := q2) rfl))
    (of_decide_eq_true (p := PySem.W.nsIn K mainGlobals "abs" = some none) (c.fact 3 (f := q3) rfl))
    (of_decide_eq_true (p := PySem.W.nsIn K mainGlobals "max" = some none) (c.fact 4 (f := q4) rfl))
    (of_decide_eq_true (p := PySem.W.nsIn K mainGlobals "min" = some none) (c.fact 5 (f := q5) rfl))
    (of_decide_eq_true (p := PySem.W.nsIn K mainGlobals "int" = some none) (c.fact 6 (f := q6) rfl))
    (of_decide_eq_true (p := PySem.W.nsIn K mainGlobals "bool" = some none) (c.fact 7 (f := q7) rfl))
    (of_decide_eq_true (p := PySem.W.nsIn K mainGlobals "str" = some none) (c.fact 8 (f := q8) rfl))
    (of_decide_eq_true (p := PySem.W.nsIn K mainGlobals "repr" = some none) (c.fact 9 (f := q9) rfl))
    (of_decide_eq_true (p := PySem.W.nsIn K mainGlobals "all" = some none) (c.fact 10 (f := q10) rfl))
    (of_decide_eq_true (p := PySem.W.nsIn K mainGlobals "any" = some none) (c.fact 11 (f := q11) rfl))
    (of_decide_eq_true (p := PySem.W.nsIn K mainGlobals "range" = some none) (c.fact 12 (f := q12) rfl))
    (of_decide_eq_true (p := PySem.W.nsIn K mainGlobals "divmod" = some none) (c.fact 13 (f := q13) rfl))
    (of_decide_eq_true (p := PySem.W.nsIn K mainGlobals "isinstance" = some none) (c.fact 14 (f := q14) rfl))
    (of_decide_eq_true (p := PySem.W.nsIn K mainGlobals "list" = some none) (c.fact 15 (f := q15) rfl))
    (of_decide_eq_true (p := PySem.W.nsIn K mainGlobals "tuple" = some none) (c.fact 16 (f := q16) rfl))
    (of_decide_eq_true (p := PySem.W.nsIn K mainGlobals "dict" = some none) (c.fact 17 (f := q17) rfl))
    (of_decide_eq_true (p := PySem.W.nsIn K mainGlobals "enumerate" = some none) (c.fact 18 (f := q18) rfl))
    (of_decide_eq_true (p := PySem.W.nsIn K mainGlobals "zip" = some none) (c.fact 19 (f := q19) rfl))
    (of_decide_eq_true (p := PySem.W.nsIn K mainGlobals "sorted" = some none) (c.fact 20 (f := q20) rfl))
    (of_decide_eq_true (p := PySem.W.nsIn K mainGlobals "sum" = some none) (c.fact 21 (f := q21) rfl))
    (of_decide_eq_true (p := PySem.W.nsIn K mainGlobals "type" = some none) (c.fact 22 (f := q22) rfl))
    (of_decide_eq_true (p := PySem.W.nsIn K mainGlobals "Plan" = some (some (.ref (ga K "Plan")))) (c.fact 23 (f := q23) rfl))
    (c.fact 24 (f := q24) rfl)
    (c.fact 25 (f := q25) rfl)
    (c.fact 26 (f := q26) rfl)
    (of_decide_eq_true (p := PySem.W.findIn K (.ref (ga K "Plan")) "__setattr__" = some (some (.builtin "object.__setattr__"))) (c.fact 27 (f := q27) rfl))
    (c.fact 28 (f := q28) rfl)
    (c.fact 29 (f := q29) rfl)
    (of_decide_eq_true (p := PySem.W.findIn K (.ref (ga K "Plan")) "__class__" = some (some (.builtin "object.__class__"))) (c.fact 30 (f := q30) rfl))
    (of_decide_eq_true (p := PySem.W.mroIn K (ga K "Plan") (.type "object") = some true) (c.fact 31 (f := q31) rfl))
    (of_decide_eq_true (p := PySem.W.kitOne K (.ref (ga K "Plan")) (.ref (ga K "Plan")) = some true) (c.fact 32 (f := q32) rfl))
    (of_decide_eq_true (p := PySem.W.findIn K (.ref (ga K "Plan")) "__ne__" = some (some (.builtin "object.__ne__"))) (c.fact 33 (f := q33) rfl))
    (of_decide_eq_true (p := PySem.W.findIn K (.ref (ga K "Plan")) "own_rounds" = some none) (c.fact 34 (f := q34) rfl))
    (of_decide_eq_true (p := PySem.W.findIn K (.ref (ga K "Plan")) "own_parts" = some none) (c.fact 35 (f := q35) rfl))
    (of_decide_eq_true (p := PySem.W.findIn K (.ref (ga K "Plan")) "own_growth" = some none) (c.fact 36 (f := q36) rfl))
    v_EAST
    v_NORTH
    v_FEWEST_PARTS
    v_MOST_PARTS
    v_MOST_FINE
    (of_decide_eq_true (p := PySem.W.nsIn K mainGlobals "AXES" = some (some (.ref (ga K "AXES")))) (c.fact 42 (f := q42) rfl))
    l_AX
    (of_decide_eq_true (p := PySem.W.typeIn K (.ref (ga K "Plan")) = some (.type "type")) (c.fact 44 (f := q44) rfl))
    (of_decide_eq_true (p := PySem.W.specialIn K (.ref (ga K "Plan")) "__getattribute__" = some (some (.builtin "type.__getattribute__"))) (c.fact 45 (f := q45) rfl))
    (c.fact 46 (f := q46) rfl)
    cv_MOST_ROUNDS
    cv_MOST_CUTS
    cv_MOST_SIGNS
    (of_decide_eq_true (p := PySem.W.kitOne K (.type "NoneType") (.ref (ga K "Plan")) = some false) (c.fact 50 (f := q50) rfl))
    (c.fact 51 (f := q51) rfl)
    (of_decide_eq_true (p := PySem.W.kitOne K (.type "bool") (.ref (ga K "Plan")) = some false) (c.fact 52 (f := q52) rfl))
    (c.fact 53 (f := q53) rfl)
    (of_decide_eq_true (p := PySem.W.kitOne K (.type "str") (.ref (ga K "Plan")) = some false) (c.fact 54 (f := q54) rfl))
    (c.fact 55 (f := q55) rfl)
    (of_decide_eq_true (p := PySem.W.kitOne K (.type "int") (.ref (ga K "Plan")) = some false) (c.fact 56 (f := q56) rfl))
    (c.fact 57 (f := q57) rfl)
    (of_decide_eq_true (p := PySem.W.kitOne K (.type "list") (.ref (ga K "Plan")) = some false) (c.fact 58 (f := q58) rfl))
    (c.fact 59 (f := q59) rfl)
    (of_decide_eq_true (p := PySem.W.kitOne K (.type "tuple") (.ref (ga K "Plan")) = some false) (c.fact 60 (f := q60) rfl))
    (c.fact 61 (f := q61) rfl)
    (of_decide_eq_true (p := PySem.W.kitOne K (.type "dict") (.ref (ga K "Plan")) = some false) (c.fact 62 (f := q62) rfl))
    (c.fact 63 (f := q63) rfl)
    (of_decide_eq_true (p := PySem.W.nsIn K mainGlobals "law" = some (some (.ref (ga K "law")))) (c.fact 64 (f := q64) rfl))
    F_law
    (of_decide_eq_true (p := PySem.W.nsIn K mainGlobals "_law_pot" = some (some (.ref (ga K "_law_pot")))) (c.fact 65 (f := q65) rfl))
    F_pot
    (of_decide_eq_true (p := PySem.W.nsIn K mainGlobals "_law_right" = some (some (.ref (ga K "_law_right")))) (c.fact 66 (f := q66) rfl))
    F_right
    (of_decide_eq_true (p := PySem.W.nsIn K mainGlobals "_law_draw" = some (some (.ref (ga K "_law_draw")))) (c.fact 67 (f := q67) rfl))
    F_draw
    (of_decide_eq_true (p := PySem.W.nsIn K mainGlobals "_law_rounds" = some (some (.ref (ga K "_law_rounds")))) (c.fact 68 (f := q68) rfl))
    F_rounds
    (of_decide_eq_true (p := PySem.W.nsIn K mainGlobals "_law_pick" = some (some (.ref (ga K "_law_pick")))) (c.fact 69 (f := q69) rfl))
    F_pick
    (of_decide_eq_true (p := PySem.W.nsIn K mainGlobals "_law_mixed" = some (some (.ref (ga K "_law_mixed")))) (c.fact 70 (f := q70) rfl))
    F_mixed
    (of_decide_eq_true (p := PySem.W.nsIn K mainGlobals "_law_product" = some (some (.ref (ga K "_law_product")))) (c.fact 71 (f := q71) rfl))
    F_lprod
    (of_decide_eq_true (p := PySem.W.nsIn K mainGlobals "_law_plan" = some (some (.ref (ga K "_law_plan")))) (c.fact 72 (f := q72) rfl))
    F_lplan2
    (of_decide_eq_true (p := PySem.W.findIn K (.ref (ga K "Plan")) "__init__" = some (some (.ref (ma K (ga K "Plan") "__init__")))) (c.fact 73 (f := q73) rfl))
    (c.fact 74 (f := q74) rfl)
    F_init2
    (of_decide_eq_true (p := PySem.W.nsIn K mainGlobals "want_rounds" = some (some (.ref (ga K "want_rounds")))) (c.fact 75 (f := q75) rfl))
    F_wantrounds
    (of_decide_eq_true (p := PySem.W.nsIn K mainGlobals "is_round" = some (some (.ref (ga K "is_round")))) (c.fact 76 (f := q76) rfl))
    F_isround
    (of_decide_eq_true (p := PySem.W.nsIn K mainGlobals "is_list" = some (some (.ref (ga K "is_list")))) (c.fact 77 (f := q77) rfl))
    F_islist
    (of_decide_eq_true (p := PySem.W.nsIn K mainGlobals "is_cut" = some (some (.ref (ga K "is_cut")))) (c.fact 78 (f := q78) rfl))
    F_iscut
    (of_decide_eq_true (p := PySem.W.nsIn K mainGlobals "is_axis" = some (some (.ref (ga K "is_axis")))) (c.fact 79 (f := q79) rfl))
    F_isaxis
    (of_decide_eq_true (p := PySem.W.nsIn K mainGlobals "are_parts" = some (some (.ref (ga K "are_parts")))) (c.fact 80 (f := q80) rfl))
    F_areparts
    (of_decide_eq_true (p := PySem.W.nsIn K mainGlobals "is_integer" = some (some (.ref (ga K "is_integer")))) (c.fact 81 (f := q81) rfl))
    F_isint
    (of_decide_eq_true (p := PySem.W.nsIn K mainGlobals "parts_along" = some (some (.ref (ga K "parts_along")))) (c.fact 82 (f := q82) rfl))
    F_along1
    (of_decide_eq_true (p := PySem.W.findIn K (.ref (ga K "Plan")) "product_of" = some (some (.ref (ma K (ga K "Plan") "product_of")))) (c.fact 83 (f := q83) rfl))
    (c.fact 84 (f := q84) rfl)
    F_prod
    (of_decide_eq_true (p := PySem.W.nsIn K mainGlobals "_law_told_right" = some (some (.ref (ga K "_law_told_right")))) (c.fact 85 (f := q85) rfl))
    F_tright
    (of_decide_eq_true (p := PySem.W.nsIn K mainGlobals "_law_round_right" = some (some (.ref (ga K "_law_round_right")))) (c.fact 86 (f := q86) rfl))
    F_rright
    (of_decide_eq_true (p := PySem.W.nsIn K mainGlobals "_law_parts" = some (some (.ref (ga K "_law_parts")))) (c.fact 87 (f := q87) rfl))
    F_lparts
    (of_decide_eq_true (p := PySem.W.nsIn K mainGlobals "_law_place" = some (some (.ref (ga K "_law_place")))) (c.fact 88 (f := q88) rfl))
    F_lplace
    (of_decide_eq_true (p := PySem.W.findIn K (.ref (ga K "Plan")) "signs" = some (some (.ref (ma K (ga K "Plan") "signs")))) (c.fact 89 (f := q89) rfl))
    (c.fact 90 (f := q90) rfl)
    F_signs
    (of_decide_eq_true (p := PySem.W.findIn K (.ref (ga K "Plan")) "parts" = some (some (.ref (ma K (ga K "Plan") "parts")))) (c.fact 91 (f := q91) rfl))
    (c.fact 92 (f := q92) rfl)
    F_parts
    (of_decide_eq_true (p := PySem.W.nsIn K mainGlobals "want_phase" = some (some (.ref (ga K "want_phase")))) (c.fact 93 (f := q93) rfl))
    F_wantphase
    (of_decide_eq_true (p := PySem.W.nsIn K mainGlobals "is_count" = some (some (.ref (ga K "is_count")))) (c.fact 94 (f := q94) rfl))
    F_count
    (of_decide_eq_true (p := PySem.W.findIn K (.ref (ga K "Plan")) "__len__" = some (some (.ref (ma K (ga K "Plan") "__len__")))) (c.fact 95 (f := q95) rfl))
    (c.fact 96 (f := q96) rfl)
    F_plen
    (of_decide_eq_true (p := PySem.W.findIn K (.ref (ga K "Plan")) "place_of" = some (some (.ref (ma K (ga K "Plan") "place_of")))) (c.fact 97 (f := q97) rfl))
    (c.fact 98 (f := q98) rfl)
    F_placeof
    (of_decide_eq_true (p := PySem.W.nsIn K mainGlobals "want_sign" = some (some (.ref (ga K "want_sign")))) (c.fact 99 (f := q99) rfl))
    F_wantsign
    (of_decide_eq_true (p := PySem.W.nsIn K mainGlobals "place_in" = some (some (.ref (ga K "place_in")))) (c.fact 100 (f := q100) rfl))
    F_placein
    (of_decide_eq_true (p := PySem.W.nsIn K mainGlobals "along" = some (some (.ref (ga K "along")))) (c.fact 101 (f := q101) rfl))
    F_along
    (of_decide_eq_true (p := PySem.W.findIn K (.ref (ga K "Plan")) "sign_at" = some (some (.ref (ma K (ga K "Plan") "sign_at")))) (c.fact 102 (f := q102) rfl))
    (c.fact 103 (f := q103) rfl)
    F_signat
    (of_decide_eq_true (p := PySem.W.nsIn K mainGlobals "sign_in" = some (some (.ref (ga K "sign_in")))) (c.fact 104 (f := q104) rfl))
    F_signin
    (of_decide_eq_true (p := PySem.W.nsIn K mainGlobals "_law_counts_right" = some (some (.ref (ga K "_law_counts_right")))) (c.fact 105 (f := q105) rfl))
    F_cright
    (of_decide_eq_true (p := PySem.W.findIn K (.ref (ga K "Plan")) "counts" = some (some (.ref (ma K (ga K "Plan") "counts")))) (c.fact 106 (f := q106) rfl))
    (c.fact 107 (f := q107) rfl)
    F_pcounts
    (of_decide_eq_true (p := PySem.W.nsIn K mainGlobals "want_fineness" = some (some (.ref (ga K "want_fineness")))) (c.fact 108 (f := q108) rfl))
    F_wantfine
    (of_decide_eq_true (p := PySem.W.findIn K (.ref (ga K "Plan")) "phase" = some (some (.ref (ma K (ga K "Plan") "phase")))) (c.fact 109 (f := q109) rfl))
    (c.fact 110 (f := q110) rfl)
    F_pphase
    (of_decide_eq_true (p := PySem.W.findIn K (.ref (ga K "Plan")) "growth" = some (some (.ref (ma K (ga K "Plan") "growth")))) (c.fact 111 (f := q111) rfl))
    (of_decide_eq_true (p := PySem.W.specialIn K (.ref (ma K (ga K "Plan") "growth")) "__get__" = some (some (.builtin "property.__get__"))) (c.fact 112 (f := q112) rfl))
    (of_decide_eq_true (p := PySem.W.takesIn K (.ref (ma K (ga K "Plan") "growth")) = some true) (c.fact 113 (f := q113) rfl))
    e_pgrowth
    F_pgrowth
    (of_decide_eq_true (p := PySem.W.findIn K (.ref (ga K "Plan")) "rounds" = some (some (.ref (ma K (ga K "Plan") "rounds")))) (c.fact 115 (f := q115) rfl))
    (c.fact 116 (f := q116) rfl)
    F_prounds
    (of_decide_eq_true (p := PySem.W.findIn K (.ref (ga K "Plan")) "__repr__" = some (some (.ref (ma K (ga K "Plan") "__repr__")))) (c.fact 117 (f := q117) rfl))
    (c.fact 118 (f := q118) rfl)
    F_prepr
    (of_decide_eq_true (p := PySem.W.nsIn K mainGlobals "_law_turned_right" = some (some (.ref (ga K "_law_turned_right")))) (c.fact 119 (f := q119) rfl))
    F_turight
    (of_decide_eq_true (p := PySem.W.findIn K (.ref (ga K "Plan")) "turned" = some (some (.ref (ma K (ga K "Plan") "turned")))) (c.fact 120 (f := q120) rfl))
    (c.fact 121 (f := q121) rfl)
    F_turned
    (of_decide_eq_true (p := PySem.W.findIn K (.ref (ga K "Plan")) "__init__" = some (some (.ref (ma K (ga K "Plan") "__init__")))) (c.fact 122 (f := q122) rfl))
    (c.fact 123 (f := q123) rfl)
    F_init
    (of_decide_eq_true (p := PySem.W.findIn K (.ref (ga K "Plan")) "__eq__" = some (some (.ref (ma K (ga K "Plan") "__eq__")))) (c.fact 124 (f := q124) rfl))
    (c.fact 125 (f := q125) rfl)
    F_peq
    (of_decide_eq_true (p := PySem.W.nsIn K mainGlobals "_law_others" = some (some (.ref (ga K "_law_others")))) (c.fact 126 (f := q126) rfl))
    F_lothers
    (of_decide_eq_true (p := PySem.W.nsIn K mainGlobals "_law_equal_right" = some (some (.ref (ga K "_law_equal_right")))) (c.fact 127 (f := q127) rfl))
    F_eqright
    (of_decide_eq_true (p := PySem.W.nsIn K mainGlobals "_law_plan" = some (some (.ref (ga K "_law_plan")))) (c.fact 128 (f := q128) rfl))
    F_lplan
    (of_decide_eq_true (p := PySem.W.findIn K (.ref (ga K "Plan")) "__eq__" = some (some (.ref (ma K (ga K "Plan") "__eq__")))) (c.fact 129 (f := q129) rfl))
    (c.fact 130 (f := q130) rfl)
    F_peqx
    (of_decide_eq_true (p := PySem.W.nsIn K mainGlobals "_law_known_right" = some (some (.ref (ga K "_law_known_right")))) (c.fact 131 (f := q131) rfl))
    F_kright
    (of_decide_eq_true (p := PySem.W.specialIn K (.ref (ga K "Plan")) "__getattribute__" = some (some (.builtin "type.__getattribute__"))) (c.fact 132 (f := q132) rfl))
    (c.fact 133 (f := q133) rfl)
    (sgB_ok (c.fact 134 (f := q134) rfl))
    e_psquares
    (c.fact 136 (f := q136) rfl)
    F_psquares
    (of_decide_eq_true (p := PySem.W.specialIn K (.ref (ga K "Plan")) "__getattribute__" = some (some (.builtin "type.__getattribute__"))) (c.fact 137 (f := q137) rfl))
    (c.fact 138 (f := q138) rfl)
    (sgB_ok (c.fact 139 (f := q139) rfl))
    e_pcodes
    (c.fact 141 (f := q141) rfl)
    F_pcodes
end T
set_option Elab.async false
open PySem PySem.W PySem.Calls PyProof.Rows
set_option maxRecDepth 100000 in
set_option maxHeartbeats 0 in
theorem PySem.Challenge.cw_movecells_k14_plans_told_holds : PySem.Challenge.rw_movecells_k14_plans_told.Holds := by
  w_on; o_law
  refine HandSHeadRun.head_any (r := T0.Ro) (q := view T0.Ro.prog [53]) (H := T0.hkM) (ob := Mv.seeM 0 T0.fcs T0.dfs) (M := 60000) (loose := T0.nms) (d := HandSHeadRun.topDef T0.Ro.prog 53) (kwd := []) (fun s => Mv.seeM_eq s)
    (by kernel_rfl) (fun s => by kernel_rfl) T0.topRuns (by kernel_rfl) (by kernel_rfl) (by kernel_rfl) (by rfl) (by first | assumption | decide +kernel) (by decide +kernel) ⟨rfl, rfl, rfl, rfl, rfl, by decide +kernel⟩ ?hw ?hc
  case hw => w_witness2
  case hc =>
    refine Mv.walk_gM (x := "_law_script") (l := PySem.Challenge.rw_movecells_k14_plans_told) (n := 63) (k := 12) (sp := T.sp_law) rfl (by decide) (by kernel_rfl) ⟨rfl, by decide, by decide⟩ (fun w mg fa h Y G hm => ?_) fun _ _ a ns hl hS => ⟨a, ns, rfl, hS, hl, fun _ => rfl⟩
    obtain ⟨K, KX, c⟩ := Y
    have e : (HandSHeadRun.topDef T0.Ro.prog 53).name = ("law" : PySem.Str) := by kernel_rfl
    obtain ⟨fd, hb, hF⟩ := T.facts (P := (PySem.Challenge.rw_movecells_k14_plans_told).prog) (w := w) KX G (e ▸ hm) c
    exact ⟨K, fd, KX, hb, hF⟩
