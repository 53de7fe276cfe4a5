import PyProof.Rows.All
import Wide.All
import OpenK.AllK
import Wide.FinOn
import HandS.ForMost
import HandS.Wide
import HandS.WideBits
import HandS.IsInst
import HandS.Property
import HandS.ClsMeth
import HandS.FStr
import HandS.MakeKw
import HandS.Flow
import HandS.RaiseMore
import PyProof.ReprRoads
import PyProof.InstEq
import KE.KCallOwn
import KE.KFmtOwn
import HandS.SlotsOwn
import PyProof.ReprNest
import PyProof.StrHeap
import HandS.Defaults
import HandS.MakeKwOnly
import HandS.Walk
import KE.KStateDown
import KE.KIsAll
import HandS.Head0
import HandS.Head1
import HandS.Head2
import HandS.HeadHook1
import HandS.HeadHook2
import HandS.Zip
import HandS.Style
import HandS.Star
import KE.GoesEnum
import HandS.TupAny
import HandS.Words
import HandS.Strs
import KE.KRevSl
import KE.KOpsOwn
import HandS.NoneIn
import HandS.SortRule
import HandS.TupSets
import HandS.Conv
import PySem.Challenge.RW_movecells_k51_whole_greatest_distances
set_option Elab.async false
set_option maxRecDepth 100000
set_option maxHeartbeats 4000000
namespace Mv
open PySem PySem.Spec PyProof.Rows L2
section
variable {X : Cx}
/-- // by any divisor but 0 below 2 ^ 9000 -/
def CDivX (_ j : Int) : Prop := j ≠ 0 ∧ j.natAbs.log2 < 9000
theorem op_fdivX : OpR X (binaryOp .FloorDiv) (rI CDivX fun i j => .int (i.fdiv j)) := opI fun i j _ _ _ _ _ hc q => by
  exact floordiv_int hc.1 q (Or.inl (PyProof.noPylong_of_log2 hc.2))
theorem divp_of {i j : Int} (h : 0 < j) (h2 : j.natAbs.log2 < 9000) : CDivP i j := ⟨h, PyProof.noPylong_of_log2 h2⟩
end
/-! ### guards: no repr is running -/
abbrev GA (A : Around) : Prop := A.guards = some []
theorem ga_deeper {A : Around} {env : Env} (h : GA A) : GA (A.deeper env) := h
theorem ga_make {A : Around} (h : GA A) (C : Addr) (us : List Value) (kw : List (Str × Value)) : GA (A.under (.builtin "type.__call__" ⟨.ref C :: us, kw⟩)) := by
  first | exact h | (simpa [GA, Around.under, Code.guards, Code.isGuard, guardIds, pushGuards] using h)
theorem ga_in1 {A : Around} (h : GA A) : GA A.in1 := h
/-- a def that may be called where no repr is running -/
structure FnG (P : Program) (w : World) (K : PySem.W.Frag) (mg : Str → Option Value) (base : Heap) (k : Nat) (f : Addr) (fd : FuncData) (ps : List Str) (sp : Sp) : Prop where
  len : ∀ vs H Q E, sp vs H Q E → vs.length = ps.length
  run : ∀ (A : Around) (outer : List Env) (s : Shared) (H : Hp) (args : Args) (us : List Value) (vs : List V) (Q : VK) (E : XK), Room k A → GA A → Env0 P w K mg base A outer s H → BindsTo s fd args (ps.zip us) → Vals vs us → sp vs H Q E →
    codeAny (model P w) A (.call (.ref f) args) (CR CX0 outer P w H s Q E) s
theorem FnG.of {P : Program} {w : World} {K : PySem.W.Frag} {mg : Str → Option Value} {base : Heap} {k : Nat} {f : Addr} {fd : FuncData} {ps : List Str} {sp : Sp} (F : FnOk P w K mg base CX0 k f fd ps sp) : FnG P w K mg base k f fd ps sp :=
  ⟨F.len, fun A outer s H args us vs Q E hr _ => F.run A outer s H args us vs Q E hr⟩
theorem FnG.mono {P : Program} {w : World} {K : PySem.W.Frag} {mg : Str → Option Value} {base : Heap} {j k : Nat} {f : Addr} {fd : FuncData} {ps : List Str} {sp : Sp} (F : FnG P w K mg base j f fd ps sp) (h : j ≤ k) : FnG P w K mg base k f fd ps sp :=
  ⟨F.len, fun A outer s H args us vs Q E hr => F.run A outer s H args us vs Q E (hr.mono h)⟩
section
variable {X : Cx} {k : Nat} {f C : Addr} {fd : FuncData} {ps ks : List Str} {sp : Sp} {dvs : List V} {ds : List Value} {x m : Str} {p pos apos : Pos} {e o : Expr} {es : List Expr} {kws : List Keyword} {ta : TE} {t tk : TA}
  {g : List Value → List Value → List Value} {gV : List V → List V → List V}
theorem run_fng {pins : List (Addr × Obj)} {σ : L2.St} {H : Hp} {s : Shared} {Q : VK} {us : List Value} {vs : List V} (F : FnG X.prog X.w X.K X.mg X.base k f fd ps sp) (hr : Room k X.A) (ga : GA X.A) (hb : Binds X.K fd ps ds) (hd : Vals dvs ds)
    (I : Inv X pins σ H s) (r : Vals vs us) (h : sp (vs ++ dvs) H Q E0) : wpAny (model X.prog X.w) X.A (call (.ref f) us) (EP X pins σ Q) X.xe s := by
  have r2 : Vals (vs ++ dvs) (us ++ ds) := r.append hd
  have hl : (us ++ ds).length = ps.length := by rw [← r2.length]; exact F.len _ _ _ _ h
  refine wpAny_call (codeAny_mono (F.run X.A X.stack s H ⟨us, []⟩ (us ++ ds) (vs ++ dvs) Q E0 hr ga I.env0 (hb s us I.kIn hl) r2 h) fun r s' hq => ?_)
  cases r with
  | error e => exact False.elim hq
  | ok fl =>
    cases fl with
    | ret u => exact I.after hq
    | next => exact False.elim hq
    | brk => exact False.elim hq
    | cont => exact False.elim hq
theorem run_fngk {pins : List (Addr × Obj)} {σ : L2.St} {H : Hp} {s : Shared} {Q : VK} {us ws : List Value} {vs zs : List V} (F : FnG X.prog X.w X.K X.mg X.base k f fd ps sp) (hr : Room k X.A) (ga : GA X.A) (hb : KBinds X.K fd ps ks g gV)
    (I : Inv X pins σ H s) (r : Vals vs us) (rz : Vals zs ws) (h : sp (gV vs zs) H Q E0) : wpAny (model X.prog X.w) X.A (call (.ref f) us (ks.zip ws)) (EP X pins σ Q) X.xe s := by
  have r2 := hb.rel r rz
  have hl : (g us ws).length = ps.length := by rw [← r2.length]; exact F.len _ _ _ _ h
  refine wpAny_call (codeAny_mono (F.run X.A X.stack s H ⟨us, ks.zip ws⟩ (g us ws) (gV vs zs) Q E0 hr ga I.env0 (hb.to s us ws I.kIn hl) r2 h) fun r s' hq => ?_)
  cases r with
  | error e => exact False.elim hq
  | ok fl =>
    cases fl with
    | ret u => exact I.after hq
    | next => exact False.elim hq
    | brk => exact False.elim hq
    | cont => exact False.elim hq
end
/-- a def of the module, by its name -/
structure Cg (P : Program) (w : World) (K : PySem.W.Frag) (mg : Str → Option Value) (base : Heap) (k : Nat) (x : Str) (ps : List Str) (sp : Sp) (dvs : List V) : Prop where
  ex : ∃ (f : Addr) (fd : FuncData) (ds : List Value), FnG P w K mg base k f fd ps sp ∧ mg x = some (.ref f) ∧ PySem.W.keepIn K (.ref f) = true ∧ Binds K fd ps ds ∧ Vals dvs ds
section
variable {X : Cx} {k j : Nat} {f C : Addr} {fd : FuncData} {ps ks : List Str} {sp : Sp} {dvs : List V} {ds : List Value} {x m : Str} {p pos apos : Pos} {e o : Expr} {es : List Expr} {kws : List Keyword} {ta : TE} {t tk : TA}
theorem pe_g (c : Cg X.prog X.w X.K X.mg X.base k x ps sp dvs) (hr : Room j X.A) (ga : GA X.A) (hk : k ≤ j) (hg : Gl X x) (ha : PA X (e :: es) t)
    (hdb : (x == ("__debug__" : Str)) = false := by decide) (he : starEach (e :: es) X.env = (false, eval e X.env) :: starEach es X.env := by rfl) (hpl : (backTo pos (starEach es X.env)).any (·.1) = false := by rfl) :
    PE X (.Call (.Name x p) (e :: es) [] pos) (tCall sp dvs E0 t) := by
  obtain ⟨f, fd, ds, F, hm, kp, hb, hd⟩ := c.ex
  refine ⟨fun pins s σ H Q I h => ?_⟩
  refine wpAny_Call_Name_kw (ld_glob I hg hm ?_ hdb)
  exact PySem.W.callWith_K (h₀ := X.base) I.ok.mod.kin kp (thn (ha.run pos pins s σ H _ I h) fun us s1 ⟨vs, H1, I1, r, q⟩ => ⟨I1.kIn, run_fng F (hr.mono hk) ga hb hd I1 r q⟩) he hpl
theorem pe_g0 (c : Cg X.prog X.w X.K X.mg X.base k x ps sp dvs) (hr : Room j X.A) (ga : GA X.A) (hk : k ≤ j) (hg : Gl X x) (hdb : (x == ("__debug__" : Str)) = false := by decide) : PE X (.Call (.Name x p) [] [] pos) (tCall sp dvs E0 tNil) := by
  obtain ⟨f, fd, ds, F, hm, kp, hb, hd⟩ := c.ex
  refine ⟨fun pins s σ H Q I h => ?_⟩
  refine wpAny_Call_Name_kw (ld_glob I hg hm ?_ hdb)
  exact PySem.W.callWith_K0 I.kIn kp (run_fng (us := []) F (hr.mono hk) ga hb hd I .nil h)
end
section
variable {P : Program} {w : World} {K : PySem.W.Frag} {mg : Str → Option Value} {base : Heap}
/-- THE RULE for a def where no repr is running -/
theorem fng_of {k : Nat} {f : Addr} {name qual : Str} {params : Arguments} {body : List Stmt} {scope : Scope} {dV kV doc pm cdv ct oc : Value} {an od : Option Addr}
    {osl : Array (Option Value)} {N ps : List Str} {sp : Sp} (lk : K.lookup f = some ⟨oc, od, .func (PySem.W.fnOf name qual params body scope dV kV doc pm an cdv ct), osl⟩) (hcd : PySem.W.codeIn K cdv qual = true) (S : FnScope N ps scope)
    (len : ∀ vs H Q E, sp vs H Q E → vs.length = ps.length)
    (hbody : ∀ (A : Around) (outer : List Env) (s : Shared) (H : Hp) (vs : List V) (Q : VK) (E : XK), Room k (A.deeper (envOfC qual scope s.heap.objs.size f cdv)) → GA (A.deeper (envOfC qual scope s.heap.objs.size f cdv)) → sp vs H Q E →
      ∃ t, PSs (cxOf CX0 P w K mg base N qual scope f cdv A outer s H E) body t ∧ t { nx := fun _ H' => Q .non H', rt := Q } (start N vs) H) :
    FnG P w K mg base (k + 1) f (PySem.W.fnOf name qual params body scope dV kV doc pm an cdv ct) ps sp := by
  refine ⟨len, fun A outer s H args us vs Q E hr ga e0 hb r hsp => ?_⟩
  have hl := len _ _ _ _ hsp
  have KX : K.In s.heap := e0.mod.kin.keeps fun b o e => (e0.bs b o e).1
  have lim : s.heap.NoLimit := e0.mod.nolimit.keeps fun b o e => (e0.bs b o e).1
  have hkind : ∀ y ∈ ps.zip us, scope.names.lookup y.1 = some .local ∨ (scope.names.lookup y.1 = some .cell ∧ ((cellsFrom (s.heap.objs.size + 1) scope.names []).lookup y.1).isSome = true) := fun ⟨n, v⟩ hy => by
    rcases S.par n (List.of_mem_zip hy).1 with q | q
    · exact .inl q
    · exact .inr ⟨q, PySem.W.cellsFrom_some _ _ _ (.inl q)⟩
  refine codeAny_call_function hr.depth (KX _ _ lk) rfl S.co S.gen rfl (PySem.W.codeRec_of KX hcd) (hb _ _ _ _ ?_)
  refine wpAny_newFunctionEnv_cells S.kind hkind fun env he s1 x => ?_
  subst he
  refine ⟨lim.keeps x.toInCall.keep, codeAny_func ?_⟩
  obtain ⟨t, ht, hq⟩ := hbody A outer s H vs Q E (hr.deeper _) (ga_deeper ga) hsp
  have I : Inv (cxOf CX0 P w K mg base N qual scope f cdv A outer s H E) [] (start N vs) H s1 := inv_start S hr.hd e0 hl r x
  refine wpAny_mono (ht.run [] s1 (start N vs) H _ I hq) (fun fl s' hs => ?_) fun e s' hs => hs
  have fin : ∀ {σ' : L2.St} {H' : Hp} {v : V} {u : Value}, Inv (cxOf CX0 P w K mg base N qual scope f cdv A outer s H E) [] σ' H' s' → RelV v u → Q v H' → CE outer P w H s Q u s' :=
    fun {σ' H' v u} J rv q => ⟨v, H', J.os, J.bare, J.base, J.hok, rv, q⟩
  cases fl with
  | ret u =>
    obtain ⟨v, σ', H', J, rv, q⟩ := hs
    exact fin J rv q
  | next =>
    obtain ⟨σ', H', J, q⟩ := hs
    exact fin (v := V.non) (u := Value.none) J rfl q
  | brk =>
    obtain ⟨_, _, _, q⟩ := hs
    exact False.elim q
  | cont =>
    obtain ⟨_, _, _, q⟩ := hs
    exact False.elim q
theorem okG {x qual : Str} {st : Stmt} {f : Addr} {fd : FuncData} {N ps : List Str} {k : Nat} {sp : Sp} (F : Fun K x qual st f fd) (S : FnScope N ps (defScope st)) (len : ∀ vs H Q E, sp vs H Q E → vs.length = ps.length)
    (hbody : ∀ (cdv : Value) (A : Around) (outer : List Env) (s : Shared) (H : Hp) (vs : List V) (Q : VK) (E : XK), Room k (A.deeper (envOfC qual (defScope st) s.heap.objs.size f cdv)) → GA (A.deeper (envOfC qual (defScope st) s.heap.objs.size f cdv)) → sp vs H Q E →
      ∃ t, PSs (cxOf CX0 P w K mg base N qual (defScope st) f cdv A outer s H E).nox (defBody st) t ∧ t { nx := fun _ H' => Q .non H', rt := Q } (start N vs) H) : FnG P w K mg base (k + 1) f fd ps sp := by
  obtain ⟨oc, od, kV, doc, pm, an, cdv, ct, osl, rfl, lk, hcd⟩ := F.ex
  refine fng_of lk hcd S len fun A outer s H vs Q E hr ga hsp => ?_
  obtain ⟨t, h, q⟩ := hbody cdv A outer s H vs Q E hr ga hsp
  exact ⟨t, h.nox, q⟩
end
end Mv
set_option Elab.async false
set_option maxRecDepth 100000
set_option maxHeartbeats 4000000
namespace PySem.W
open PySem PySem.Spec PySem.Calls PyProof.Rows
section
variable {prog : Program} {w : World} {A : Around} {E : Value → Shared → Prop} {s : Shared} {K : Frag} {x C f : Addr} {ox : Obj} {od : Option Obj} {b tb : Value}
/-- x != b by object.__ne__ over an own __eq__ -/
theorem mv_ne {Q : Value → Shared → Prop} (hu : A.units + 1 < cLine) (X : K.In s.heap) (I : InstAt s.heap x ox C od) (hb : Looks (model prog w) s.heap (typeOf b) tb) (hn : notFirst K C tb = true)
    (hne : findIn K (.ref C) "__ne__" = some (some (.builtin "object.__ne__"))) (hm : mroIn K C (.type "object") = some true) (hs : findIn K (.ref C) "__eq__" = some (some (.ref f))) (hf : isFn K (.ref f) = true)
    (h : wpAny (model prog w) A.in1 (call (.ref f) [.ref x, b]) (fun v s' => ∃ k, v = .bool k ∧ Q (.bool (!k)) s') E s) : wpAny (model prog w) A (richCompare .NotEq (.ref x) b) Q E s := by
  have one : wpAny (model prog w) A (tryCompare (.ref x) "__ne__" b) (fun r s' => ∃ v, r = some v ∧ Q v s') E s := by
    unfold tryCompare
    have inner : wpAny (model prog w) A (call (.builtin "object.__ne__") [.ref x, b]) (fun v s' => ∃ k, v = .bool k ∧ Q v s') E s := by
      refine wpAny_call (codeAny_call_builtin PySem.F.cmp_object.ne.plain PySem.F.cmpEntry_ne (check_slot (i := "object.__ne__") (owner := "object") (n := "__ne__") (by decide +kernel) (by decide +kernel) (I.type.andThen (looks_mroIn X hm)) (PySem.F.cmpArgs_ne _ _) ?_))
      unfold Builtin.«object.__ne__»
      refine wpAny_bind (m := slotArgs "__ne__" 1 _) (wpAny_pure ?_)
      refine wpAny_bind (m := cRoomFor _ _) (wpAny_cRoomFor hu ?_)
      refine wpAny_bind (m := callSpecialIfBound? (.ref x) (Str.ofString "__eq__") _) (ifBound_K X I hs hf (wpAny_mono h (fun r s' hq => ?_) fun _ _ y => y))
      obtain ⟨k, rfl, hq⟩ := hq
      exact wpAny_bind (wpAny_truthy_bool (wpAny_pure ⟨_, rfl, hq⟩))
    have sp : wpAny (model prog w) A (callSpecialIfBound? (.ref x) "__ne__" [b]) (fun r s' => ∃ k, r = some (.bool k) ∧ Q (.bool k) s') E s := by
      simp only [callSpecialIfBound?, bindSpecialIfBound?]
      refine wpAny_holding (wpAny_bind (wpAny_bind (wpAny_bind (I.type.here ((looks_findIn X hne).here ?_)))))
      simp only [PySem.F.cmp_object.ne.bind]
      refine wpAny_bind (wpAny_askSetting (wpAny_ite ?_))
      have fin : wpAny (model prog w) A (call (.builtin "object.__ne__") ([.ref x] ++ [b]) >>= fun v => pure (some v)) (fun r s' => ∃ k, r = some (.bool k) ∧ Q (.bool k) s') E s :=
        wpAny_bind (wpAny_mono inner (fun v s' h' => by obtain ⟨k, rfl, q⟩ := h'; exact wpAny_pure ⟨k, rfl, q⟩) fun _ _ h' => h')
      split
      · exact wpAny_bind (wpAny_pure (wpAny_pure fin))
      · exact wpAny_tryCatch (wpAny_bind (wpAny_pure (wpAny_pure fin)))
    refine wpAny_bind (wpAny_mono sp (fun r s' hr => ?_) fun _ _ e => e)
    obtain ⟨k, rfl, q⟩ := hr
    exact wpAny_pure ⟨_, rfl, q⟩
  unfold richCompare
  simp only [oneThing_ref]
  refine wpAny_holding (wpAny_bind (wpAny_cRoomFor (by omega) ?_))
  refine wpAny_bind (I.type.here (wpAny_bind (hb.here ?_)))
  split
  · rename_i q
    have e : subIn K tb (.ref C) = some false := by
      rcases Bool.or_eq_true_iff.mp hn with e | e
      · rw [beq_iff_eq.mp e] at q; simp at q
      · exact beq_iff_eq.mp e
    refine wpAny_bind ((looks_subIn X e).here ?_)
    simp only [Bool.false_eq_true, if_false]
    refine wpAny_bind (wpAny_mono one (fun r s' z => ?_) fun _ _ e => e)
    obtain ⟨v, rfl, hq⟩ := z
    exact wpAny_pure hq
  · refine wpAny_bind (wpAny_pure ?_)
    simp only [Bool.false_eq_true, if_false]
    refine wpAny_bind (wpAny_mono one (fun r s' z => ?_) fun _ _ e => e)
    obtain ⟨v, rfl, hq⟩ := z
    exact wpAny_pure hq
end
end PySem.W
namespace Mv
open PySem PySem.Spec PyProof.Rows L2
/-- a def called with the instance and one more, as an operator calls it -/
structure Op2 (P : Program) (w : World) (K : PySem.W.Frag) (mg : Str → Option Value) (base : Heap) (k : Nat) (C : Addr) (m : Str) (sp : Sp) : Prop where
  ex : ∃ (g : Addr) (fd : FuncData) (ps : List Str), FnOk P w K mg base CX0 k g fd ps sp ∧ Binds K fd ps [] ∧ PySem.W.findIn K (.ref C) m = some (some (.ref g)) ∧ PySem.W.isFn K (.ref g) = true
section
variable {X : Cx} {k : Nat} {C : Addr} {sp : Sp}
theorem run_at {A : Around} {pins : List (Addr × Obj)} {σ : L2.St} {H : Hp} {s : Shared} {Q : VK} {us : List Value} {vs : List V} {E' : Value → Shared → Prop} {g : Addr} {fd : FuncData} {ps : List Str} (F : FnOk X.prog X.w X.K X.mg X.base CX0 k g fd ps sp) (hr : Room k A) (hf : A.frames = some X.stack) (hb : Binds X.K fd ps [])
    (I : Inv X pins σ H s) (r : Vals vs us) (h : sp vs H Q E0) : wpAny (model X.prog X.w) A (call (.ref g) us) (EP X pins σ Q) E' s := by
  have hl : (us ++ []).length = ps.length := by rw [List.append_nil, ← r.length]; exact F.len _ _ _ _ h
  have b := hb s us I.kIn hl
  rw [List.append_nil] at b
  have e0 := I.env0
  refine wpAny_call (codeAny_mono (F.run A X.stack s H ⟨us, []⟩ us vs Q E0 hr ⟨hf, e0.mod, e0.bs, e0.bsz, e0.funs, e0.frf, e0.hok, e0.bare⟩ b r h) fun r s' hq => ?_)
  cases r with
  | error e => exact False.elim hq
  | ok fl =>
    cases fl with
    | ret u => exact I.after hq
    | next => exact False.elim hq
    | brk => exact False.elim hq
    | cont => exact False.elim hq
/-- x == y, x an instance of the class at C with an own __eq__ -/
def rEqO (K : PySem.W.Frag) (C : Addr) (sp : Sp) : R2 := fun x y H Q => ∃ a dx fs t, x = .ref a ∧ H a = some (.ins C dx fs) ∧ TyX K H y t ∧ PySem.W.notFirst K C t = true ∧ sp [x, y] H Q E0
def rNeO (K : PySem.W.Frag) (C : Addr) (sp : Sp) : R2 := fun x y H Q => ∃ a dx fs t, x = .ref a ∧ H a = some (.ins C dx fs) ∧ TyX K H y t ∧ PySem.W.notFirst K C t = true ∧ sp [x, y] H (fun v H' => ∃ k, v = .bl k ∧ Q (.bl (!k)) H') E0
theorem op_eqO (c : Op2 X.prog X.w X.K X.mg X.base k C "__eq__" sp) (hr : Room k X.A) : OpR X (compareOp .Eq) (rEqO X.K C sp) := by
  obtain ⟨g, fd, ps, F, hb, hs, hf⟩ := c.ex
  intro pins s σ H x y v u Q I rx ry h
  obtain ⟨a, dx, fs, t, rfl, ea, ty, hn, q⟩ := h
  obtain rfl : v = Value.ref a := rx
  obtain ⟨mA, O, _⟩ := ins_get I.hok ea
  obtain ⟨od, J, _⟩ := O.look
  obtain ⟨m, hF⟩ := I.fr
  obtain ⟨P, kx, hP, _⟩ := kit_of I ry ty
  show wpAny _ _ (richCompare .Eq _ _) _ _ _
  refine PySem.W.cmp_K (op := .Eq) hr.units0 hF I.ok.mod.kin J (kx.ty _ _ I.kIn hP) hn hs hf ?_
  refine wpAny_mono (run_at (vs := [.ref a, y]) F hr I.ok.frames hb I (.cons rfl (.cons ry .nil)) q) (fun w s' z => ?_) fun _ _ x => x
  obtain ⟨z', H', I', rz, qz⟩ := z
  exact SlX.cmpback rz ⟨z', H', I', rz, qz⟩
theorem op_neO (c : Op2 X.prog X.w X.K X.mg X.base k C "__eq__" sp) (hr : Room (k + 1) X.A) (hne : PySem.W.findIn X.K (.ref C) "__ne__" = some (some (.builtin "object.__ne__"))) (hm : PySem.W.mroIn X.K C (.type "object") = some true) :
    OpR X (compareOp .NotEq) (rNeO X.K C sp) := by
  obtain ⟨g, fd, ps, F, hb, hs, hf⟩ := c.ex
  intro pins s σ H x y v u Q I rx ry h
  obtain ⟨a, dx, fs, t, rfl, ea, ty, hn, q⟩ := h
  obtain rfl : v = Value.ref a := rx
  obtain ⟨mA, O, _⟩ := ins_get I.hok ea
  obtain ⟨od, J, _⟩ := O.look
  obtain ⟨P, kx, hP, _⟩ := kit_of I ry ty
  show wpAny _ _ (richCompare .NotEq _ _) _ _ _
  refine PySem.W.mv_ne (by have := hr.units; omega) I.kIn J (kx.ty _ _ I.kIn hP) hn hne hm hs hf ?_
  refine wpAny_mono (run_at (vs := [.ref a, y]) F hr.in1 I.ok.frames hb I (.cons rfl (.cons ry .nil)) q) (fun w s' z => ?_) fun _ _ x => x
  obtain ⟨z', H', I', rz, k', rfl, qz⟩ := z
  obtain rfl : w = Value.bool k' := rz
  exact ⟨k', rfl, .bl _, H', I', rfl, qz⟩
/-- repr(x), x an instance with an own __repr__ -/
def rReprO (C : Addr) (sp : Sp) : List V → Hp → VK → Prop := fun xs H Q => ∃ a dx fs, xs = [.ref a] ∧ H a = some (.ins C dx fs) ∧ sp [.ref a] H (fun v H' => ∃ z, v = .str z ∧ Q v H') E0
theorem call_reprO (c : Op2 X.prog X.w X.K X.mg X.base k C "__repr__" sp) (hr : Room (k + 1) X.A) : CallR X (.builtin "repr") (rReprO C sp) := by
  obtain ⟨g, fd, ps, F, hb, hs, hf⟩ := c.ex
  intro pins s σ H xs us Q I r h
  obtain ⟨a, dx, fs, rfl, ea, q⟩ := h
  obtain ⟨u, rfl, ru⟩ := vals1 r
  obtain rfl : u = Value.ref a := ru
  obtain ⟨mA, O, _⟩ := ins_get I.hok ea
  obtain ⟨od, J, _⟩ := O.look
  obtain ⟨m, hF⟩ := I.fr
  refine PySem.W.repr_K (by have := hr.units; show X.A.units + 1 < cLine; omega) hF I.ok.mod.kin J hs hf ?_
  refine wpAny_mono (run_at (vs := [.ref a]) F hr.in1 I.ok.frames hb I (.cons rfl .nil) q) (fun w s' z => ?_) fun _ _ x => x
  obtain ⟨z', H', I', rz, y, rfl, qz⟩ := z
  obtain ⟨tk, rfl⟩ := rz
  exact ⟨.str y, H', I', ⟨_, rfl⟩, qz⟩
/-- str(x), x an instance with an own __str__ -/
theorem call_strO (c : Op2 X.prog X.w X.K X.mg X.base k C "__str__" sp) (hr : Room (k + 2) X.A) : CallR X (.type "str") (rReprO C sp) := by
  obtain ⟨g, fd, ps, F, hb, hs, hf⟩ := c.ex
  intro pins s σ H xs us Q I r h
  obtain ⟨a, dx, fs, rfl, ea, q⟩ := h
  obtain ⟨u, rfl, ru⟩ := vals1 r
  obtain rfl : u = Value.ref a := ru
  obtain ⟨mA, O, _⟩ := ins_get I.hok ea
  obtain ⟨od, J, _⟩ := O.look
  have hr1 : Room (k + 1) X.A.in1 := hr.in1
  have hr2 : Room k X.A.in1.in1 := hr1.in1
  refine PySem.W.kso_call hr2.units0 I.kIn J hs hf ?_
  refine wpAny_mono (run_at (vs := [.ref a]) F hr2 I.ok.frames hb I (.cons rfl .nil) q) (fun w s' z => ?_) fun _ _ x => x
  obtain ⟨z', H', I', rz, y, rfl, qz⟩ := z
  obtain ⟨tk, rfl⟩ := rz
  exact ⟨.str y, H', I', ⟨_, rfl⟩, qz⟩
/-- repr of lists and tuples of data -/
def rReprD (K : PySem.W.Frag) : List V → Hp → VK → Prop := fun xs H Q => ∃ a d, xs = [.ref a] ∧ Dp K H (.ref a) d ∧ d.showable = true ∧ d.hasDict = false ∧ d.depth ≤ 60 ∧ d.shown.length ≤ sizeLine ∧ Q (.str d.shown) H
theorem call_reprD (ga : GA X.A) (hr : Room k X.A) : CallR X (.builtin "repr") (rReprD X.K) := by
  intro pins s σ H xs us Q I r h
  obtain ⟨a, d, rfl, hd, hs, hn, hz, hl, q⟩ := h
  obtain ⟨u, rfl, ru⟩ := vals1 r
  obtain rfl : u = Value.ref a := ru
  obtain ⟨as, rd⟩ := hd.reads I d _ _ rfl
  refine repr_of_reads' rd hs (fun z => absurd z (by rw [hn]; simp)) ga (by have := hr.units; omega) (fun _ _ e => e) (fun h' u tk hk => ?_) hl
  exact ⟨.str _, H, I.kept hk, ⟨_, rfl⟩, q⟩
end
end Mv
set_option Elab.async false
set_option maxRecDepth 100000
set_option maxHeartbeats 4000000
namespace Mv
open PySem PySem.Spec PyProof.Rows L2
theorem loop_frames {A : Around} {args : Args} : (A.under (.builtin "list.__repr__.loop" args)).frames = A.frames := by
  first | rfl | (simp [Around.under, Code.envs, Code.isFrame, pushEnvs])
theorem loop_room {A : Around} {k : Nat} {args : Args} (r : Room (k + 1) A) : Room k (A.under (.builtin "list.__repr__.loop" args)) :=
  ⟨r.hd, by
    have h := r.dp
    have e : (A.under (.builtin "list.__repr__.loop" args)).depth = A.depth + 1 := by
      first | rfl | simp [Around.under, Code.weight, Code.isCreation, Code.isGuard, Code.isCaller, Code.frames, Code.isFrame, guardIds]
    rw [e]; omega, by
    have h := r.un
    rw [units_under_list_loop]; omega⟩
/-- what repr of the value v is where it stands inside lists -/
def RepX (X : Cx) (H : Hp) (k : Nat) (v : V) (t : Str) : Prop :=
  ∀ (A : Around) (base : Nat), Room k A → A.frames = some X.stack → base + t.length ≤ sizeLine →
    ∀ (pins : List (Addr × Obj)) (s : Shared) (σ : L2.St) (u : Value) (Q : Str → Shared → Prop) (E : Value → Shared → Prop), RelV v u → Inv X pins σ H s → (∀ s', Inv X pins σ H s' → Q t s') →
      wpAny (model X.prog X.w) A (pyReprUnder base u) Q E s
section
variable {X : Cx} {k : Nat} {C : Addr} {sp : Sp} {H : Hp}
theorem RepX.own {a dx : Addr} {fs : List (Str × V)} {t : Str} (c : Op2 X.prog X.w X.K X.mg X.base k C "__repr__" sp) (ea : H a = some (.ins C dx fs))
    (hsp : ∀ Q : VK, Q (.str t) H → sp [.ref a] H Q E0) : RepX X H k (.ref a) t := by
  obtain ⟨g, fd, ps, F, hb, hs, hf⟩ := c.ex
  intro A base hr hfr hz pins s σ u Q E ru I hq
  obtain rfl : u = Value.ref a := ru
  obtain ⟨mA, O, _⟩ := ins_get I.hok ea
  obtain ⟨od, J, _⟩ := O.look
  refine wpAny_pyReprUnder_ref (by omega) ?_
  unfold pyReprObjUnder pyReprObjBy
  refine wpAny_bind (wpAny_cRoomFor hr.units0 ?_)
  refine wpAny_bind (wpAny_bind (J.type.here ((PySem.W.looks_findIn I.kIn hs).here ?_)))
  show wpAny _ _ (if (some (Value.ref g)).isNone = true then _ else _) _ _ _
  rw [if_neg (by simp)]
  have main : wpAny (model X.prog X.w) A (call (.ref g) [.ref a]) (fun v s' => ∃ u, v = .str t u ∧ Q t s') E s := by
    refine wpAny_mono (run_at (vs := [.ref a]) F hr hfr hb I (.cons rfl .nil) (hsp (fun v H' => v = .str t ∧ H' = H) ⟨rfl, rfl⟩)) (fun v s' z => ?_) fun _ _ x => x
    obtain ⟨z', H', I', rz, rfl, rfl⟩ := z
    obtain ⟨tk, rfl⟩ := rz
    exact ⟨tk, rfl, hq s' I'⟩
  have fin : wpAny (model X.prog X.w) A (callSpecialIfBoundBy? (fun g first => match reprUnder? g, first with
      | some twin, [self] => call twin [self, rawInt base]
      | _, _ => call g (first ++ [])) (.ref a) "__repr__") (fun r s' => ∃ u, r = some (.str t u) ∧ Q t s') E s := by
    simp only [callSpecialIfBoundBy?, bindSpecialIfBound?]
    refine wpAny_holding (wpAny_bind (wpAny_bind (wpAny_bind (J.type.here ((PySem.W.looks_findIn I.kIn hs).here ?_)))))
    refine wpAny_bind (wpAny_askSetting (wpAny_ite ?_))
    have m2 : wpAny (model X.prog X.w) A (call (.ref g) ([.ref a] ++ []) >>= fun v => pure (some v)) (fun r s' => ∃ u, r = some (.str t u) ∧ Q t s') E s :=
      wpAny_bind (wpAny_mono main (fun v s' h' => by obtain ⟨u, rfl, q⟩ := h'; exact wpAny_pure ⟨u, rfl, q⟩) fun _ _ h' => h')
    split
    · exact wpAny_bind ((PySem.W.bind_fn I.kIn _ (beq_iff_eq.mp hf)).here (wpAny_pure (by exact m2)))
    · exact wpAny_tryCatch (wpAny_bind ((PySem.W.bind_fn I.kIn _ (beq_iff_eq.mp hf)).here (wpAny_pure (by exact m2))))
  refine wpAny_bind (wpAny_mono fin (fun r s' hr' => ?_) fun _ _ e => e)
  obtain ⟨u, rfl, q⟩ := hr'
  exact wpAny_bind (wpAny_isInstance (T := "str") (b := true) rfl isSubtype_str_str (wpAny_pure ⟨_, _, rfl, q⟩))
/-- items and their texts -/
inductive RepAll (X : Cx) (H : Hp) (k : Nat) : List V → List Str → Prop
  | nil : RepAll X H k [] []
  | cons {v : V} {t : Str} {vs : List V} {ts : List Str} : RepX X H k v t → RepAll X H k vs ts → RepAll X H k (v :: vs) (t :: ts)
theorem RepAll.len : ∀ {vs : List V} {ts : List Str}, RepAll X H k vs ts → ts.length = vs.length
  | _, _, .nil => rfl
  | _, _, .cons _ h => by simp [h.len]
theorem RepAll.at : ∀ {vs : List V} {ts : List Str} {us : List Value} {i : Nat} {u : Value}, RepAll X H k vs ts → Vals vs us → us[i]? = some u → ∃ v t, ts[i]? = some t ∧ RelV v u ∧ RepX X H k v t
  | _, _, _, _, _, .nil, .nil, h => by simp at h
  | _, _, _, 0, _, .cons r _, .cons q _, h => by
    simp at h; subst h
    exact ⟨_, _, rfl, q, r⟩
  | _, _, _, i + 1, _, .cons _ r, .cons _ q, h => by
    obtain ⟨v, t, a, b, c⟩ := RepAll.at (i := i) r q (by simpa using h)
    exact ⟨v, t, by simpa using a, b, c⟩
abbrev partsObj (acc : Array Value) (c : Nat) : Obj := { cls := .type "list", dict := none, data := .seq acc c, slots := #[] }
theorem list_loop {a P : Addr} {vs : List V} {ts : List Str} {A : Around} {base : Nat} {R : Result → Shared → Prop} {σ : L2.St} {pins : List (Addr × Obj)} (hr : Room (k + 1) A) (hfr : A.frames = some X.stack)
    (ha : SqL X.K H a vs) (hT : RepAll X H k vs ts) (hsz : base + (listText ts).length ≤ sizeLine) (hP0 : X.s_0.heap.objs.size ≤ P) (hPL : P ≠ X.env.locals) (hPc : ∀ x c, X.env.cells.lookup x = some c → c ≠ P) (hPp : ∀ p ∈ X.pn ++ pins, p.1 ≠ P) (hPs : P ∉ X.fs)
    (hR : ∀ s' u, Inv X pins σ H s' → R (.ok (.ret (.str (listText ts) u))) s') :
    ∀ (n i : Nat) (s : Shared) (acc : Array Value) (c : Nat) (done : List (Str × Tok)), vs.length - i = n → i ≤ vs.length → Inv X ((P, partsObj acc c) :: pins) σ H s → acc.toList = strValues done → done.map (·.1) = ts.take i →
    codeAny (model X.prog X.w) A (.builtin "list.__repr__.loop" ⟨[.ref a, rawInt i, .ref P, rawInt ((base + piled (ts.take i) : Nat) : Int)], []⟩) R s := by
  have hlen := hT.len
  have hX : (listText ts).length = (textFrom 0 "[" ts).length + 1 := by
    show (textFrom 0 "[" ts ++ "]").length = _
    rw [strLen_append]; rfl
  have hL := textFrom_len ts 0 "["
  have hsz1 : vs.length ≤ sizeLine := by
    have h1 := hL.1
    rw [if_neg (Nat.lt_irrefl 0)] at h1
    omega
  have hsz2 : ∀ t ∈ ts, t.length ≤ sizeLine := fun t ht => by
    have h2 := hL.2.1 t ht
    omega
  have hp3 := piled_le_listText ts
  intro n
  induction n with
  | zero =>
    intro i s acc c done hk hi I hacc hdone
    obtain ⟨its, rv, ⟨oa, na, hoa, _, _, hda⟩, _⟩ := I.list ha
    have hin : i = vs.length := by omega
    have hPo := ClX.pin_at I
    refine codeAny_builtin F.entry_list_repr_loop ?_
    show wpAny _ _ (Builtin.«list.__repr__.loop» ⟨[.ref a, .int i 0, .ref P, .int ((base + piled (ts.take i) : Nat) : Int) 0], []⟩) _ _ s
    rw [repr_loop_tree]
    refine wpAny_bind (wpAny_listItems hoa hda ?_)
    have hnone : its.toArray[(i : Int).toNat]? = none := by
      have := rv.length
      simp; omega
    simp only [hnone]
    unfold reprEnd
    refine wpAny_bind (wpAny_listItems hPo rfl ?_)
    rw [hacc, repr_fold]
    refine wpAny_bind (wpAny_pure ?_)
    have hall : done.map (·.1) = ts := by rw [hdone, hin, ← hlen, List.take_length]
    rw [hall]
    refine wpAny_bind (wpAny_mkStr (wpAny_pure ?_) (show (listText ts).length ≤ sizeLine by omega))
    exact hR _ _ ((ClX.unpin I).tok _)
  | succ n ih =>
    intro i s acc c done hk hi I hacc hdone
    obtain ⟨its, rv, ⟨oa, na, hoa, _, _, hda⟩, _⟩ := I.list ha
    have hil : i < its.length := by have := rv.length; omega
    obtain ⟨v, t, ht, rvu, hrep⟩ := hT.at (i := i) (u := its[i]) rv (by simp [hil])
    have hp1 := piled_take_succ ht
    have hp2 := piled_take_le ts (i + 1)
    refine codeAny_builtin F.entry_list_repr_loop ?_
    show wpAny _ _ (Builtin.«list.__repr__.loop» ⟨[.ref a, .int i 0, .ref P, .int ((base + piled (ts.take i) : Nat) : Int) 0], []⟩) _ _ s
    rw [repr_loop_tree]
    refine wpAny_bind (wpAny_listItems hoa hda ?_)
    have hsome : its.toArray[(i : Int).toNat]? = some its[i] := by simp [hil]
    simp only [hsome]
    rw [Int.toNat_natCast]
    refine wpAny_bind (wpAny_holding (hrep _ (base + piled (ts.take i) + 1) (loop_room hr) (loop_frames.trans hfr) (by omega) _ _ σ _ _ _ rvu I fun s1 I1 => ?_))
    refine wpAny_bind (wpAny_mkStr ?_ (hsz2 t (List.mem_of_getElem? ht)))
    refine wpAny_bind ?_
    show wpAny _ _ (updateSeq P _) _ _ _
    have hasz : acc.size ≤ sizeLine := by
      have e1 : acc.toList.length = acc.size := by simp
      have e2 : (strValues done).length = done.length := by simp [strValues]
      have e3 : done.length = (ts.take i).length := by rw [← hdone, List.length_map]
      have e4 : (ts.take i).length ≤ i := by rw [List.length_take]; omega
      rw [hacc] at e1; omega
    have I2 := I1.tok (s1.toks + 1)
    have hPn : H P = none := ClX.pin_un I1
    have hP2 : ({ s1 with toks := s1.toks + 1 } : Shared).heap.get? P = some (partsObj acc c) := ClX.pin_at I1
    refine wpAny_updateSeq hP2 rfl (wpAny_pure ⟨F.quiet_list_repr_loop _, ?_⟩) hasz
    have e1 : ((i : Int) + 1) = ((i + 1 : Nat) : Int) := by omega
    have e2 : base + piled (ts.take i) + (t.length + 2) = base + piled (ts.take (i + 1)) := by omega
    rw [e1, e2]
    have hup : ∃ c', (s1.heap.update P (Obj.mapSeq (·.push (.str t s1.toks)))).get? P = some (partsObj (acc.push (.str t s1.toks)) c') := ⟨_, Heap.get?_update_self _ (ClX.pin_at I1) rfl⟩
    obtain ⟨c', hup⟩ := hup
    refine ih (i + 1) _ (acc.push (.str t s1.toks)) c' (done ++ [(t, s1.toks)]) (by omega) (by omega) ?_ (by simp [hacc, strValues]) (by simp [List.take_add_one, ht, hdone])
    have I3 := (ClX.unpin I2).turned (t' := s1.toks + 1) (it := P) (h' := s1.heap.update P (Obj.mapSeq (·.push (.str t s1.toks)))) (fun b o hb e => (Heap.get?_update_other _ _ (fun h : P = b => hb h.symm)).trans e) (ClX.pin_un I1) hPL (.inr hP0) hPc hPp
    refine I3.pins_of fun p hp => ?_
    rcases List.mem_cons.mp hp with e | e
    · subst e
      refine ⟨hup, hPn, hPL, hPs, fun v z => nomatch z⟩
    · exact I3.pin p (List.mem_append_right _ e)
/-- repr of a list whose items have such texts -/
def rReprL (X : Cx) (k : Nat) : List V → Hp → VK → Prop := fun xs H Q => ∃ a v vs ts, xs = [.ref a] ∧ SqL X.K H a (v :: vs) ∧ RepAll X H k (v :: vs) ts ∧ (listText ts).length ≤ sizeLine ∧ Q (.str (listText ts)) H
theorem call_reprL (ga : GA X.A) (hr : Room (k + 2) X.A) : CallR X (.builtin "repr") (rReprL X k) := by
  intro pins s σ H xs us Q I r h
  obtain ⟨a, v, vs, ts, rfl, hS, hT, hz, q⟩ := h
  obtain ⟨u, rfl, ru⟩ := vals1 r
  obtain rfl : u = Value.ref a := ru
  obtain ⟨its, rv, ⟨oa, na, hoa, hc, hd, hda⟩, _⟩ := I.list hS
  obtain ⟨i0, irest, rfl⟩ : ∃ i0 irest, its = i0 :: irest := by
    cases rv with
    | cons _ _ => exact ⟨_, _, rfl⟩
  have hTy : s.TypeIs (.ref a) "list" := ⟨oa, hoa, hc⟩
  have hr1 : Room (k + 1) X.A.in1 := hr.in1
  refine call_repr_slot (by have := hr.units; omega) hTy F.slot_list_repr.toG ?_
  refine wpAny_call (codeAny_call_builtin F.slot_list_repr.plain F.entry_list_repr (F.slot_list_repr.check _ _ _ _ _ _ _ _ hTy (F.args_list_repr_1 _) ?_))
  refine wpAny_list_repr_head (A := X.A.in1.in1) (b := 0) (g := []) ga (fun _ _ _ z => nomatch z) hoa hda ?_
  refine wpAny_bind (m := newList []) (wpAny_newObj_type ?_)
  refine wpAny_pure ⟨F.quiet_list_repr_loop _, ?_⟩
  have I1 : Inv X ((s.heap.objs.size, partsObj #[] 0) :: pins) σ H { s with heap := s.heap.push (partsObj #[] 0), toks := s.toks } :=
    ClX.pin_new I (fun _ _ z => Heap.get?_push_of_some _ z) (Nat.le_refl _) (Heap.get?_push_size s.heap rfl) (fun v z => nomatch z)
  refine list_loop (P := s.heap.objs.size) (base := 0) (pins := pins) (σ := σ) hr1 I.ok.frames hS hT (by omega) I.sz (Nat.ne_of_gt I.lt) (fun x c e => ?_) (fun p hp => ?_) (I.nofs (Nat.le_refl _)) (fun s' u I' => ?_) _ 0 _ #[] 0 [] rfl (Nat.zero_le _) I1 rfl (by simp)
  · obtain ⟨_, ob, hob, _⟩ := I.cell x c e
    exact Nat.ne_of_lt (Heap.lt_size hob)
  · exact Nat.ne_of_lt (Heap.lt_size (I.pin p hp).1)
  · exact ⟨_, _, rfl, .str _, H, I', ⟨_, rfl⟩, q⟩
end
end Mv
set_option Elab.async false
set_option maxRecDepth 100000
set_option maxHeartbeats 4000000
namespace Mv
open PySem PySem.Spec PyProof.Rows L2
/-- a def of the text, its defaults dvs -/
abbrev Df (K : PySem.W.Frag) (x qual : Str) (st : Stmt) (dvs : List V) (f : Addr) (fd : FuncData) : Prop := FunD K x qual (defArgs st) (defBody st) (defScope st) dvs [] f fd
section
variable {P : Program} {w : World} {K : PySem.W.Frag} {mg : Str → Option Value} {base : Heap}
theorem Df.mk0 {x qual : Str} {st : Stmt} {f : Addr} {oc : Value} {od an : Option Addr} {osl : Array (Option Value)} {kV doc pm cdv ct : Value} (l : K.lookup f = some ⟨oc, od, .func (PySem.W.fnOf x qual (defArgs st) (defBody st) (defScope st) .none kV doc pm an cdv ct), osl⟩)
    (c : PySem.W.codeIn K cdv qual = true) (k : PySem.W.keepIn K (.ref f) = true) : Df K x qual st [] f (PySem.W.fnOf x qual (defArgs st) (defBody st) (defScope st) .none kV doc pm an cdv ct) :=
  ⟨⟨oc, od, .none, kV, doc, pm, an, cdv, ct, osl, rfl, l, c, .inl ⟨rfl, rfl⟩, .inl rfl⟩, k⟩
theorem dfOk {x qual : Str} {st : Stmt} {dvs : List V} {f : Addr} {fd : FuncData} {N ps : List Str} {k : Nat} {sp : Sp} (F : Df K x qual st dvs f fd) (S : FnScope N ps (defScope st)) (len : ∀ vs H Q E, sp vs H Q E → vs.length = ps.length)
    (hbody : ∀ (cdv : Value) (A : Around) (outer : List Env) (s : Shared) (H : Hp) (vs : List V) (Q : VK) (E : XK), Room k (A.deeper (envOfC qual (defScope st) s.heap.objs.size f cdv)) → sp vs H Q E →
      ∃ t, PSs (cxOf CX0 P w K mg base N qual (defScope st) f cdv A outer s H E).nox (defBody st) t ∧ t { nx := fun _ H' => Q .non H', rt := Q } (start N vs) H) : FnOk P w K mg base CX0 (k + 1) f fd ps sp :=
  FunD.ok F S len fun cdv A outer s H vs Q E hr h => let ⟨t, h1, h2⟩ := hbody cdv A outer s H vs Q E hr h; ⟨t, h1.nox, h2⟩
theorem dfG {x qual : Str} {st : Stmt} {dvs : List V} {f : Addr} {fd : FuncData} {N ps : List Str} {k : Nat} {sp : Sp} (F : Df K x qual st dvs f fd) (S : FnScope N ps (defScope st)) (len : ∀ vs H Q E, sp vs H Q E → vs.length = ps.length)
    (hbody : ∀ (cdv : Value) (A : Around) (outer : List Env) (s : Shared) (H : Hp) (vs : List V) (Q : VK) (E : XK), Room k (A.deeper (envOfC qual (defScope st) s.heap.objs.size f cdv)) → GA (A.deeper (envOfC qual (defScope st) s.heap.objs.size f cdv)) → sp vs H Q E →
      ∃ t, PSs (cxOf CX0 P w K mg base N qual (defScope st) f cdv A outer s H E).nox (defBody st) t ∧ t { nx := fun _ H' => Q .non H', rt := Q } (start N vs) H) : FnG P w K mg base (k + 1) f fd ps sp := by
  obtain ⟨oc, od, dV, kV, doc, pm, an, cdv, ct, osl, rfl, lk, hcd, _, _⟩ := F.ex
  refine fng_of lk hcd S len fun A outer s H vs Q E hr ga hsp => ?_
  obtain ⟨t, h, q⟩ := hbody cdv A outer s H vs Q E hr ga hsp
  exact ⟨t, h.nox, q⟩
theorem Df.bind {x qual : Str} {st : Stmt} {f : Addr} {fd : FuncData} {ps : List Str} (F : Df K x qual st [] f fd)
    (h : ∀ (kV doc pm : Value) (an : Option Addr) (cdv ct : Value) (us : List Value), us.length = ps.length → bindArgs (PySem.W.fnOf x qual (defArgs st) (defBody st) (defScope st) .none kV doc pm an cdv ct) ⟨us, []⟩ = pure (ps.zip us)) : Binds K fd ps [] := by
  obtain ⟨oc, od, dV, kV, doc, pm, an, cdv, ct, osl, rfl, lk, hcd, hd, _⟩ := F.ex
  rcases hd with ⟨_, e⟩ | ⟨e, _⟩
  · subst e
    exact .all (h kV doc pm an cdv ct)
  · exact absurd rfl e
end
/-- a def called by its name -/
structure Ca (P : Program) (w : World) (K : PySem.W.Frag) (mg : Str → Option Value) (base : Heap) (k : Nat) (x : Str) (sp : Sp) (dvs : List V) : Prop where
  ex : ∃ (f : Addr) (fd : FuncData) (ps : List Str) (ds : List Value), FnOk P w K mg base CX0 k f fd ps sp ∧ mg x = some (.ref f) ∧ PySem.W.keepIn K (.ref f) = true ∧ Binds K fd ps ds ∧ Vals dvs ds
/-- a class made by its name; C its address, sp the promise of its __init__ -/
structure Ma (P : Program) (w : World) (K : PySem.W.Frag) (mg : Str → Option Value) (base : Heap) (k : Nat) (x : Str) (C : Addr) (sp : Sp) (dvs : List V) : Prop where
  ex : ∃ (f : Addr) (fd : FuncData) (ps : List Str) (ds : List Value), Mk K C f ∧ FnOk P w K mg base CX0 k f fd ps sp ∧ mg x = some (.ref C) ∧ Binds K fd ps ds ∧ Vals dvs ds
/-- .. by keywords alone -/
structure MaK (P : Program) (w : World) (K : PySem.W.Frag) (mg : Str → Option Value) (base : Heap) (k : Nat) (x : Str) (C : Addr) (sp : Sp) (ks : List Str) (gV : List V → List V → List V) : Prop where
  ex : ∃ (f : Addr) (fd : FuncData) (ps : List Str) (g : List Value → List Value → List Value), Mk K C f ∧ FnOk P w K mg base CX0 k f fd ps sp ∧ mg x = some (.ref C) ∧ KBn K fd ps 1 ks g gV
/-- a method -/
structure Me (P : Program) (w : World) (K : PySem.W.Frag) (mg : Str → Option Value) (base : Heap) (k : Nat) (C : Addr) (m : Str) (sp : Sp) (dvs : List V) : Prop where
  ex : ∃ (f : Addr) (fd : FuncData) (ps : List Str) (ds : List Value), Cls K C ∧ Meth K C m f ∧ FnOk P w K mg base CX0 k f fd ps sp ∧ Binds K fd ps ds ∧ Vals dvs ds
/-- a property -/
structure Pr (P : Program) (w : World) (K : PySem.W.Frag) (mg : Str → Option Value) (base : Heap) (k : Nat) (C : Addr) (m : Str) (sp : Sp) : Prop where
  ex : ∃ (p g : Addr) (fd : FuncData) (ps : List Str), Cls K C ∧ PropOf K C m p g ∧ FnOk P w K mg base CX0 k g fd ps sp ∧ Binds K fd ps []
section
variable {X : Cx} {k j : Nat} {C : Addr} {x m : Str} {sp : Sp} {dvs : List V} {p pos apos : Pos} {e o : Expr} {es : List Expr} {ta : TE} {t tk : TA} {ks : List Str} {gV : List V → List V → List V} {kws : List Keyword}
theorem pe_ca (c : Ca X.prog X.w X.K X.mg X.base k x sp dvs) (hr : Room j X.A) (hk : k ≤ j) (hg : Gl X x) (ha : PA X (e :: es) t)
    (hdb : (x == ("__debug__" : Str)) = false := by decide) (he : starEach (e :: es) X.env = (false, eval e X.env) :: starEach es X.env := by rfl) (hpl : (backTo pos (starEach es X.env)).any (·.1) = false := by rfl) :
    PE X (.Call (.Name x p) (e :: es) [] pos) (tCall sp dvs E0 t) := by
  obtain ⟨f, fd, ps, ds, F, hm, kp, b, d⟩ := c.ex
  exact pe_call F (hr.mono hk) hg hm kp b d pass0 ha hdb he hpl
theorem pe_ma (c : Ma X.prog X.w X.K X.mg X.base k x C sp dvs) (hr : Room j X.A) (hk : k + 1 ≤ j) (hg : Gl X x) (ha : PA X (e :: es) t)
    (hdb : (x == ("__debug__" : Str)) = false := by decide) (he : starEach (e :: es) X.env = (false, eval e X.env) :: starEach es X.env := by rfl) (hpl : (backTo pos (starEach es X.env)).any (·.1) = false := by rfl) :
    PE X (.Call (.Name x p) (e :: es) [] pos) (tMake C sp dvs E0 t) := by
  obtain ⟨f, fd, ps, ds, M, F, hm, b, d⟩ := c.ex
  exact pe_make M F (hr.mono hk) hg hm b d pass0 ha hdb he hpl
theorem pe_me {pl : Sem Bool} (c : Me X.prog X.w X.K X.mg X.base k C m sp dvs) (hr : Room j X.A) (hk : k ≤ j) (he : PE X o ta) (ha : PA X (e :: es) t)
    (hst : starEach (e :: es) X.env = (false, eval e X.env) :: starEach es X.env := by rfl) (hpl : (backTo pos (starEach es X.env)).any (·.1) = false := by rfl)
    (ht : eval (.Call (.Attribute o m apos) (e :: es) [] pos) X.env = (do
      let ov ← eval o X.env
      standAt apos.atName
      let (f, first) ← holding [ov] (getMethod ov m pl)
      callWith pos f first (backTo pos (starEach (e :: es) X.env)) (backToKw pos (keywordEach [] X.env))) := by rfl) :
    PE X (.Call (.Attribute o m apos) (e :: es) [] pos) (tMeth C m sp dvs E0 ta t) := by
  obtain ⟨f, fd, ps, ds, hc, hm, F, b, d⟩ := c.ex
  exact pe_meth (pl := pl) he hc hm F (hr.mono hk) b d pass0 ha hst hpl ht
theorem pe_me0 {pl : Sem Bool} (c : Me X.prog X.w X.K X.mg X.base k C m sp dvs) (hr : Room j X.A) (hk : k ≤ j) (he : PE X o ta)
    (ht : eval (.Call (.Attribute o m apos) [] [] pos) X.env = (do
      let ov ← eval o X.env
      standAt apos.atName
      let (f, first) ← holding [ov] (getMethod ov m pl)
      callWith pos f first (backTo pos (starEach [] X.env)) (backToKw pos (keywordEach [] X.env))) := by rfl) :
    PE X (.Call (.Attribute o m apos) [] [] pos) (tMeth C m sp dvs E0 ta tNil) := by
  obtain ⟨f, fd, ps, ds, hc, hm, F, b, d⟩ := c.ex
  exact pe_meth0 (pl := pl) he hc hm F (hr.mono hk) b d pass0 ht
theorem pe_pr (c : Pr X.prog X.w X.K X.mg X.base k C m sp) (hr : Room j X.A) (hk : k + 1 ≤ j) (he : PE X e ta)
    (hab : attributeBase e m X.env (eval e X.env) = eval e X.env := by rfl) : PE X (.Attribute e m pos) (tProp C sp [] E0 ta) := by
  obtain ⟨p, g, fd, ps, hc, hp, F, b⟩ := c.ex
  exact pe_prop he hc hp F (hr.mono hk) b .nil pass0 hab
theorem pe_mak (c : MaK X.prog X.w X.K X.mg X.base k x C sp ks gV) (hr : Room j X.A) (hk : k + 1 ≤ j) (hg : Gl X x) (hkw : PK X kws tk)
    (hall : (backToKw pos (keywordEach kws X.env)).all (·.1.isSome) = true := by rfl) (hks : (backToKw pos (keywordEach kws X.env)).filterMap (·.1) = ks := by rfl)
    (hdb : (x == ("__debug__" : Str)) = false := by decide) (hpl : ((backTo pos (starEach [] X.env)).any (·.1) || (backToKw pos (keywordEach kws X.env)).any (·.1.isNone)) = false := by rfl) :
    PE X (.Call (.Name x p) [] kws pos) (tMakeK C 0 ks.length sp gV E0 tNil tk) := by
  obtain ⟨f, fd, ps, g, M, F, hm, b⟩ := c.ex
  exact pe_makeK0 M F (hr.mono hk) hg hm b pass0 hkw hall hks hdb hpl
end
section
variable {K : PySem.W.Frag}
/-- keywords of a def without defaults -/
theorem Df.kbn {x qual : Str} {st : Stmt} {f : Addr} {fd : FuncData} {ps : List Str} (F : Df K x qual st [] f fd) (n : Nat) (ks : List Str) (g : {α : Type} → List α → List α → List α)
    (hrel : ∀ {vs zs : List V} {us ws : List Value}, Vals vs us → Vals zs ws → Vals (g vs zs) (g us ws))
    (h : ∀ (kV doc pm : Value) (an : Option Addr) (cdv ct : Value) (us ws : List Value), us.length = n → ws.length = ks.length → bindArgs (PySem.W.fnOf x qual (defArgs st) (defBody st) (defScope st) .none kV doc pm an cdv ct) ⟨us, ks.zip ws⟩ = pure (ps.zip (g us ws))) :
    KBn K fd ps n ks (fun us ws => g us ws) (fun vs zs => g vs zs) := by
  obtain ⟨oc, od, dV, kV, doc, pm, an, cdv, ct, osl, rfl, lk, hcd, hd, _⟩ := F.ex
  rcases hd with ⟨_, e⟩ | ⟨e, _⟩
  · subst e
    exact ⟨fun s us ws X l1 l2 => .of_eq (h kV doc pm an cdv ct us ws l1 l2), fun r1 r2 => hrel r1 r2⟩
  · exact absurd rfl e
end
/-- a def by its name, keywords alone; a method, the same; a static method -/
structure CaK (P : Program) (w : World) (K : PySem.W.Frag) (mg : Str → Option Value) (base : Heap) (k : Nat) (x : Str) (sp : Sp) (ks : List Str) (gV : List V → List V → List V) : Prop where
  ex : ∃ (f : Addr) (fd : FuncData) (ps : List Str) (g : List Value → List Value → List Value), FnOk P w K mg base CX0 k f fd ps sp ∧ mg x = some (.ref f) ∧ PySem.W.keepIn K (.ref f) = true ∧ KBn K fd ps 0 ks g gV
structure MeK (P : Program) (w : World) (K : PySem.W.Frag) (mg : Str → Option Value) (base : Heap) (k : Nat) (C : Addr) (m : Str) (sp : Sp) (ks : List Str) (gV : List V → List V → List V) : Prop where
  ex : ∃ (f : Addr) (fd : FuncData) (ps : List Str) (g : List Value → List Value → List Value), Cls K C ∧ Meth K C m f ∧ FnOk P w K mg base CX0 k f fd ps sp ∧ KBn K fd ps 1 ks g gV
/-- C.m of the class at C is the static def at f -/
structure SMet (K : PySem.W.Frag) (C : Addr) (m : Str) (f : Addr) : Prop where
  ga : PySem.W.specialIn K (.ref C) "__getattribute__" = some (some (.builtin "type.__getattribute__"))
  at_ : ∃ (mc : Value) (p : Addr) (rest : List Value), PySem.W.readsIn K C mc = true ∧ PySem.W.findCls K (.ref C) mc m = some (.get (.builtin "staticmethod.__get__") (.ref p) .none (.ref C)) ∧ PySem.W.recIn K p "staticmethod" = some (.ref f :: rest)
  hv : PySem.W.handedIn (.ref f) = true
  kp : PySem.W.keepIn K (.ref f) = true
structure Sm (P : Program) (w : World) (K : PySem.W.Frag) (mg : Str → Option Value) (base : Heap) (k : Nat) (C : Addr) (m : Str) (sp : Sp) : Prop where
  ex : ∃ (f : Addr) (fd : FuncData) (ps : List Str), SMet K C m f ∧ FnOk P w K mg base CX0 k f fd ps sp ∧ Binds K fd ps []
structure SmK (P : Program) (w : World) (K : PySem.W.Frag) (mg : Str → Option Value) (base : Heap) (k : Nat) (C : Addr) (m : Str) (sp : Sp) (ks : List Str) (gV : List V → List V → List V) : Prop where
  ex : ∃ (f : Addr) (fd : FuncData) (ps : List Str) (g : List Value → List Value → List Value), SMet K C m f ∧ FnOk P w K mg base CX0 k f fd ps sp ∧ KBn K fd ps 0 ks g gV
def tCallKn (n m : Nat) (sp : Sp) (gV : List V → List V → List V) (pre : List V) (tk : TA) : TE := fun σ H Q => tk σ H fun zs H2 => zs.length = m ∧ sp (gV pre zs) H2 Q E0
def tMethKn (C : Addr) (m : Str) (n : Nat) (sp : Sp) (gV : List V → List V → List V) (ta : TE) (tk : TA) : TE := fun σ H Q => ta σ H fun x H1 => ∃ a dx fs, x = .ref a ∧ H1 a = some (.ins C dx fs) ∧ fs.lookup m = none ∧
  tk σ H1 fun zs H2 => zs.length = n ∧ sp (gV [x] zs) H2 Q E0
section
variable {X : Cx} {k j n : Nat} {C f : Addr} {fd : FuncData} {ps : List Str} {x m : Str} {sp : Sp} {dvs : List V} {p pos apos : Pos} {e o : Expr} {es : List Expr} {ta : TE} {t tk : TA} {ks : List Str} {g : List Value → List Value → List Value} {gV : List V → List V → List V} {kws : List Keyword}
theorem run_kn {pins : List (Addr × Obj)} {σ : L2.St} {H : Hp} {s : Shared} {Q : VK} {us ws : List Value} {vs zs : List V} (F : FnOk X.prog X.w X.K X.mg X.base CX0 k f fd ps sp) (hr : Room k X.A) (hb : KBn X.K fd ps n ks g gV)
    (I : Inv X pins σ H s) (r : Vals vs us) (rz : Vals zs ws) (l1 : vs.length = n) (l2 : zs.length = ks.length) (h : sp (gV vs zs) H Q E0) : wpAny (model X.prog X.w) X.A (call (.ref f) us (ks.zip ws)) (EP X pins σ Q) X.xe s := by
  refine wpAny_call (codeAny_mono (F.run X.A X.stack s H ⟨us, ks.zip ws⟩ (g us ws) (gV vs zs) Q E0 hr I.env0 (hb.to s us ws I.kIn (r.length.symm.trans l1) (rz.length.symm.trans l2)) (hb.rel r rz) h) fun r s' hq => ?_)
  cases r with
  | error e => exact False.elim hq
  | ok fl =>
    cases fl with
    | ret u => exact I.after hq
    | next => exact False.elim hq
    | brk => exact False.elim hq
    | cont => exact False.elim hq
theorem pe_cak (c : CaK X.prog X.w X.K X.mg X.base k x sp ks gV) (hr : Room j X.A) (hk : k ≤ j) (hg : Gl X x) (hkw : PK X kws tk)
    (hall : (backToKw pos (keywordEach kws X.env)).all (·.1.isSome) = true := by rfl) (hks : (backToKw pos (keywordEach kws X.env)).filterMap (·.1) = ks := by rfl)
    (hdb : (x == ("__debug__" : Str)) = false := by decide) (hpl : ((backTo pos (starEach [] X.env)).any (·.1) || (backToKw pos (keywordEach kws X.env)).any (·.1.isNone)) = false := by rfl) :
    PE X (.Call (.Name x p) [] kws pos) (tCallKn 0 ks.length sp gV [] tk) := by
  obtain ⟨f, fd, ps, g, F, hm, kp, b⟩ := c.ex
  refine ⟨fun pins s σ H Q I h => ?_⟩
  refine wpAny_Call_Name_kw (ld_glob I hg hm ?_ hdb)
  refine PySem.W.callWith_KW0 (h₀ := X.base) I.ok.mod.kin kp hall ?_ hpl
  refine thn (hkw.run pos pins s σ H _ I h) fun ws s2 ⟨zs, H2, I2, rz, l2, q2⟩ => ⟨I2.kIn, ?_⟩
  rw [hks]
  exact run_kn (us := []) (vs := []) F (hr.mono hk) b I2 .nil rz rfl l2 q2
theorem pe_mek {pl : Sem Bool} (c : MeK X.prog X.w X.K X.mg X.base k C m sp ks gV) (hr : Room j X.A) (hk : k ≤ j) (he : PE X o ta) (hkw : PK X kws tk)
    (hall : (backToKw pos (keywordEach kws X.env)).all (·.1.isSome) = true := by rfl) (hks : (backToKw pos (keywordEach kws X.env)).filterMap (·.1) = ks := by rfl)
    (hpl : ((backTo pos (starEach [] X.env)).any (·.1) || (backToKw pos (keywordEach kws X.env)).any (·.1.isNone)) = false := by rfl)
    (ht : eval (.Call (.Attribute o m apos) [] kws pos) X.env = (do
      let ov ← eval o X.env
      standAt apos.atName
      let (f, first) ← holding [ov] (getMethod ov m pl)
      callWith pos f first (backTo pos (starEach [] X.env)) (backToKw pos (keywordEach kws X.env))) := by rfl) :
    PE X (.Call (.Attribute o m apos) [] kws pos) (tMethKn C m ks.length sp gV ta tk) := by
  obtain ⟨f, fd, ps, g, hc, hm, F, b⟩ := c.ex
  refine ⟨fun pins s σ H Q I h => ?_⟩
  refine PySem.W.methodCall_KW (pl := pl) (thn (he.run pins s σ H _ I h) fun u s1 ⟨x, H1, I1, rx, a, dx, fs, ex, ea, l, q⟩ => ?_) ht
  subst ex
  obtain rfl : u = Value.ref a := rx
  refine getmeth_ok I1 ea hc hm l ?_
  refine PySem.W.callWith_KW0 (first := [.ref a]) (h₀ := X.base) I.ok.mod.kin hm.kp hall ?_ hpl
  refine thn (hkw.run pos pins s1 σ H1 _ I1 q) fun ws s2 ⟨zs, H2, I2, rz, l2, q2⟩ => ⟨I2.kIn, ?_⟩
  rw [hks]
  exact run_kn (us := [.ref a]) (vs := [.ref a]) F (hr.mono hk) b I2 (.cons rfl .nil) rz rfl l2 q2
theorem getsm_ok {pins : List (Addr × Obj)} {σ : L2.St} {H : Hp} {s : Shared} {pl : Sem Bool} {Q : Value × List Value → Shared → Prop} {A : Around} {E : Value → Shared → Prop} (I : Inv X pins σ H s) (c : SMet X.K C m f) (h : ∀ s', Inv X pins σ H s' → Q (.ref f, []) s') :
    wpAny (model X.prog X.w) A (getMethod (.ref C) m pl) Q E s := by
  obtain ⟨mc, pp, rest, rd, at_, rc⟩ := c.at_
  refine PySem.W.method_cls I.kIn c.ga (PySem.W.cls_bind I.kIn rd at_ ?_)
  exact wpAny_call (PySem.W.sm_get (s := { s with toks := s.toks + 1 }) I.kIn rc (PySem.W.handed_on c.hv (h _ (I.tok _))))
/-- C.m(e, ..), m static, C told by an expression -/
def tSm (C : Addr) (sp : Sp) (to : TE) (t : TA) : TE := fun σ H Q => to σ H fun x H1 => x = .ref C ∧ t σ H1 fun vs H2 => sp vs H2 Q E0
def tSmK (C : Addr) (n : Nat) (sp : Sp) (gV : List V → List V → List V) (to : TE) (tk : TA) : TE := fun σ H Q => to σ H fun x H1 => x = .ref C ∧ tk σ H1 fun zs H2 => zs.length = n ∧ sp (gV [] zs) H2 Q E0
theorem pe_sm {pl : Sem Bool} (c : Sm X.prog X.w X.K X.mg X.base k C m sp) (hr : Room j X.A) (hk : k ≤ j) (he : PE X o ta) (ha : PA X (e :: es) t)
    (hst : starEach (e :: es) X.env = (false, eval e X.env) :: starEach es X.env := by rfl) (hpl : (backTo pos (starEach es X.env)).any (·.1) = false := by rfl)
    (ht : eval (.Call (.Attribute o m apos) (e :: es) [] pos) X.env = (do
      let ov ← eval o X.env
      standAt apos.atName
      let (f, first) ← holding [ov] (getMethod ov m pl)
      callWith pos f first (backTo pos (starEach (e :: es) X.env)) (backToKw pos (keywordEach [] X.env))) := by rfl) :
    PE X (.Call (.Attribute o m apos) (e :: es) [] pos) (tSm C sp ta t) := by
  obtain ⟨f, fd, ps, sm, F, b⟩ := c.ex
  refine ⟨fun pins s σ H Q I h => ?_⟩
  refine PySem.W.methodCall_KW (pl := pl) (thn (he.run pins s σ H _ I h) fun u s1 ⟨x, H1, I1, rx, ex, q⟩ => ?_) ht
  subst ex
  obtain rfl : u = Value.ref C := rx
  refine getsm_ok I1 sm fun s1' I1' => ?_
  refine PySem.W.callWith_K (h₀ := X.base) I.ok.mod.kin sm.kp (thn (ha.run pos pins s1' σ H1 _ I1' q) fun us s2 ⟨vs, H2, I2, r, q2⟩ => ⟨I2.kIn, ?_⟩) hst hpl
  exact run_fn (dvs := []) F (hr.mono hk) b .nil pass0 I2 r (by rw [List.append_nil]; exact q2)
theorem pe_smk {pl : Sem Bool} (c : SmK X.prog X.w X.K X.mg X.base k C m sp ks gV) (hr : Room j X.A) (hk : k ≤ j) (he : PE X o ta) (hkw : PK X kws tk)
    (hall : (backToKw pos (keywordEach kws X.env)).all (·.1.isSome) = true := by rfl) (hks : (backToKw pos (keywordEach kws X.env)).filterMap (·.1) = ks := by rfl)
    (hpl : ((backTo pos (starEach [] X.env)).any (·.1) || (backToKw pos (keywordEach kws X.env)).any (·.1.isNone)) = false := by rfl)
    (ht : eval (.Call (.Attribute o m apos) [] kws pos) X.env = (do
      let ov ← eval o X.env
      standAt apos.atName
      let (f, first) ← holding [ov] (getMethod ov m pl)
      callWith pos f first (backTo pos (starEach [] X.env)) (backToKw pos (keywordEach kws X.env))) := by rfl) :
    PE X (.Call (.Attribute o m apos) [] kws pos) (tSmK C ks.length sp gV ta tk) := by
  obtain ⟨f, fd, ps, g, sm, F, b⟩ := c.ex
  refine ⟨fun pins s σ H Q I h => ?_⟩
  refine PySem.W.methodCall_KW (pl := pl) (thn (he.run pins s σ H _ I h) fun u s1 ⟨x, H1, I1, rx, ex, q⟩ => ?_) ht
  subst ex
  obtain rfl : u = Value.ref C := rx
  refine getsm_ok I1 sm fun s1' I1' => ?_
  refine PySem.W.callWith_KW0 (h₀ := X.base) I.ok.mod.kin sm.kp hall ?_ hpl
  refine thn (hkw.run pos pins s1' σ H1 _ I1' q) fun ws s2 ⟨zs, H2, I2, rz, l2, q2⟩ => ⟨I2.kIn, ?_⟩
  rw [hks]
  exact run_kn (us := []) (vs := []) F (hr.mono hk) b I2 .nil rz rfl l2 q2
end
/-- the context stands over this text -/
structure Over (X : Cx) (P : Program) (w : World) (K : PySem.W.Frag) (mg : Str → Option Value) (base : Heap) : Prop where
  p : X.prog = P
  w : X.w = w
  k : X.K = K
  m : X.mg = mg
  b : X.base = base
section
variable {X : Cx} {P : Program} {w : World} {K : PySem.W.Frag} {mg : Str → Option Value} {base : Heap} {k j : Nat} {C : Addr} {sp : Sp}
theorem op_eqO' (c : Op2 P w K mg base k C "__eq__" sp) (hr : Room j X.A) (hk : k ≤ j) (e : Over X P w K mg base := by exact ⟨rfl, rfl, rfl, rfl, rfl⟩) : OpR X (compareOp .Eq) (rEqO K C sp) := by
  obtain ⟨rfl, rfl, rfl, rfl, rfl⟩ := e
  exact op_eqO c (hr.mono hk)
theorem op_neO' (c : Op2 P w K mg base k C "__eq__" sp) (hr : Room j X.A) (hk : k + 1 ≤ j) (hne : PySem.W.findIn K (.ref C) "__ne__" = some (some (.builtin "object.__ne__"))) (hm : PySem.W.mroIn K C (.type "object") = some true) (e : Over X P w K mg base := by exact ⟨rfl, rfl, rfl, rfl, rfl⟩) : OpR X (compareOp .NotEq) (rNeO K C sp) := by
  obtain ⟨rfl, rfl, rfl, rfl, rfl⟩ := e
  exact op_neO c (hr.mono hk) hne hm
theorem call_strO' (c : Op2 P w K mg base k C "__str__" sp) (hr : Room j X.A) (hk : k + 2 ≤ j) (e : Over X P w K mg base := by exact ⟨rfl, rfl, rfl, rfl, rfl⟩) : CallR X (.type "str") (rReprO C sp) := by
  obtain ⟨rfl, rfl, rfl, rfl, rfl⟩ := e
  exact call_strO c (hr.mono hk)
theorem call_reprO' (c : Op2 P w K mg base k C "__repr__" sp) (hr : Room j X.A) (hk : k + 1 ≤ j) (e : Over X P w K mg base := by exact ⟨rfl, rfl, rfl, rfl, rfl⟩) : CallR X (.builtin "repr") (rReprO C sp) := by
  obtain ⟨rfl, rfl, rfl, rfl, rfl⟩ := e
  exact call_reprO c (hr.mono hk)
theorem call_isi' (e : X.K = K := by (conv => lhs; whnf)) : CallR X (.builtin "isinstance") (rIsi K) := by
  subst e
  exact call_isi
end
/-! the built-ins by their names -/
theorem bt_len : bootBuiltins "len" = some (.builtin "len") := by decide +kernel
theorem bt_abs : bootBuiltins "abs" = some (.builtin "abs") := by decide +kernel
theorem bt_max : bootBuiltins "max" = some (.builtin "max") := by decide +kernel
theorem bt_min : bootBuiltins "min" = some (.builtin "min") := by decide +kernel
theorem bt_divmod : bootBuiltins "divmod" = some (.builtin "divmod") := by decide +kernel
theorem bt_isinstance : bootBuiltins "isinstance" = some (.builtin "isinstance") := by decide +kernel
theorem bt_all : bootBuiltins "all" = some (.builtin "all") := by decide +kernel
theorem bt_any : bootBuiltins "any" = some (.builtin "any") := by decide +kernel
theorem bt_repr : bootBuiltins "repr" = some (.builtin "repr") := by decide +kernel
theorem bt_sorted : bootBuiltins "sorted" = some (.builtin "sorted") := by decide +kernel
theorem bt_enumerate : bootBuiltins "enumerate" = some (.type "enumerate") := by decide +kernel
theorem bt_zip : bootBuiltins "zip" = some (.type "zip") := by decide +kernel
theorem bt_range : bootBuiltins "range" = some (.type "range") := by decide +kernel
theorem bt_sum : bootBuiltins "sum" = some (.builtin "sum") := by decide +kernel
theorem bt_int : bootBuiltins "int" = some (.type "int") := by decide +kernel
theorem bt_str : bootBuiltins "str" = some (.type "str") := by decide +kernel
theorem bt_list : bootBuiltins "list" = some (.type "list") := by decide +kernel
theorem bt_tuple : bootBuiltins "tuple" = some (.type "tuple") := by decide +kernel
theorem bt_bool : bootBuiltins "bool" = some (.type "bool") := by decide +kernel
theorem bt_dict : bootBuiltins "dict" = some (.type "dict") := by decide +kernel
theorem bt_set : bootBuiltins "set" = some (.type "set") := by decide +kernel
theorem bt_type : bootBuiltins "type" = some (.type "type") := by decide +kernel
end Mv
set_option Elab.async false
set_option maxRecDepth 100000
set_option maxHeartbeats 4000000
namespace Mv
open PySem PySem.Spec PyProof.Rows L2
theorem same_new {H : Hp} {p : Addr} {o : HO} (h : H p = none) : Same H (upd H p o) := fun z u e => by rw [upd_ne (ne_of_none e h)]; exact e
/-- a new instance and its dict -/
theorem same_make {H : Hp} {x dx : Addr} {o o' : HO} (hx : H x = none) (hdx : H dx = none) (hne : dx ≠ x) : Same H (upd (upd H dx o) x o') :=
  (same_new hdx).trans (same_new (by rw [upd_ne (Ne.symm hne)]; exact hx))
/-- what a new object's writes leave: H' is H0 but for D -/
theorem same_over {H0 H : Hp} {D : Addr} {o : HO} (s : Same H0 H) (hD : H0 D = none) : Same H0 (upd H D o) := fun z u e => by
  rw [upd_ne (ne_of_none e hD)]; exact s _ _ e
/-- [e for x in xs] over a list that stands still, each item's value told by ys; the items may lay new objects, nothing old changes -/
theorem lc_map {K : PySem.W.Frag} {a : Addr} {xs : List V} {n : Nat} {te : TE} {vs : List Nat} {σ : L2.St} {H0 : Hp} {D : Addr} {Qd : Hp → Prop} (ys : List V) (hl : ys.length = xs.length) (hz : ys.length ≤ 100000) (hD : H0 D = none) (hS : SqL K H0 a xs)
    (hw : ∀ x, wipe ((wipe σ vs).set n (some x)) vs = wipe σ vs)
    (hs : ∀ (i : Nat) (x : V) (H : Hp) (Q : VK), xs[i]? = some x → Same H0 H → (∀ y H4, ys[i]? = some y → Same H H4 → Q y H4) → te ((wipe σ vs).set n (some x)) H Q)
    (hd : ∀ H, Same H0 H → H D = some (.lst ys) → Qd H) :
    ∃ W : Nat → Nat → Hp → Prop, (∃ m, W 0 m (upd H0 D (.lst []))) ∧ ∀ i m H, W i m H →
      ((Itl K a).stop i H ∧ Qd H) ∨ ((Itl K a).go i H ∧ ∃ Nx : Hp → Prop, (∀ H', Nx H' → ∃ m', m' < m ∧ W (i + 1) m' H') ∧ ∀ x H', (Itl K a).yld i H x H' → gName n x (wipe σ vs) H' fun σ2 H2 => wipe σ2 vs = wipe σ vs ∧ tYes σ2 H2 fun b H3 =>
        if b = true then te σ2 H3 fun y H4 => ∃ acc, H4 D = some (.lst acc) ∧ acc.length < sizeLine ∧ Nx (upd H4 D (.lst (acc ++ [y]))) else Nx H3) := by
  refine lc_list (K := K) (a := a) (xs := xs) (fun j H' => Same H0 H' ∧ H' D = some (.lst (ys.take j))) ⟨same_new hD, by rw [upd_same]; simp⟩ (fun j H' _ ⟨s, _⟩ => s.seq hS) ?_ ?_
  · rintro i x H hi ⟨sm, ed⟩
    refine ⟨hw x, hs i x H _ hi sm fun y H4 hy s4 => ⟨_, s4 _ _ ed, ?_, same_over (sm.trans s4) hD, ?_⟩⟩
    · have := (List.getElem?_eq_some_iff.mp hy).1
      rw [List.length_take]; unfold sizeLine; omega
    · rw [upd_same, List.take_add_one, hy]
      rfl
  · rintro H ⟨sm, ed⟩
    exact hd H sm (by rw [ed, ← hl, List.take_length])
/-- the same over range(n) -/
theorem lc_mapR {n : Nat} {k : Nat} {te : TE} {vs : List Nat} {σ : L2.St} {H0 : Hp} {D : Addr} {Qd : Hp → Prop} (ys : List V) (hl : ys.length = n) (hz : ys.length ≤ 100000) (hD : H0 D = none)
    (hw : ∀ x, wipe ((wipe σ vs).set k (some x)) vs = wipe σ vs)
    (hs : ∀ (i : Nat) (H : Hp) (Q : VK), i < n → Same H0 H → (∀ y H4, ys[i]? = some y → Same H H4 → Q y H4) → te ((wipe σ vs).set k (some (.int ((0 : Int) + i)))) H Q)
    (hd : ∀ H, Same H0 H → H D = some (.lst ys) → Qd H) :
    ∃ W : Nat → Nat → Hp → Prop, (∃ m, W 0 m (upd H0 D (.lst []))) ∧ ∀ i m H, W i m H →
      ((Itr 0 n).stop i H ∧ Qd H) ∨ ((Itr 0 n).go i H ∧ ∃ Nx : Hp → Prop, (∀ H', Nx H' → ∃ m', m' < m ∧ W (i + 1) m' H') ∧ ∀ x H', (Itr 0 n).yld i H x H' → gName k x (wipe σ vs) H' fun σ2 H2 => wipe σ2 vs = wipe σ vs ∧ tYes σ2 H2 fun b H3 =>
        if b = true then te σ2 H3 fun y H4 => ∃ acc, H4 D = some (.lst acc) ∧ acc.length < sizeLine ∧ Nx (upd H4 D (.lst (acc ++ [y]))) else Nx H3) := by
  refine lc_range (lo := 0) (n := n) (fun j H' => Same H0 H' ∧ H' D = some (.lst (ys.take j))) ⟨same_new hD, by rw [upd_same]; simp⟩ ?_ ?_
  · rintro i H hi ⟨sm, ed⟩
    refine ⟨hw _, hs i H _ hi sm fun y H4 hy s4 => ⟨_, s4 _ _ ed, ?_, same_over (sm.trans s4) hD, ?_⟩⟩
    · have := (List.getElem?_eq_some_iff.mp hy).1
      rw [List.length_take]; unfold sizeLine; omega
    · rw [upd_same, List.take_add_one, hy]
      rfl
  · rintro H ⟨sm, ed⟩
    exact hd H sm (by rw [ed, ← hl, List.take_length])
end Mv
set_option Elab.async false
set_option maxRecDepth 100000
set_option maxHeartbeats 4000000
namespace Mv
open PySem PySem.Spec PyProof.Rows L2
/-- the law is called where no repr is running: from an abstract heap H that tracks at most the script at a -/
theorem run_law {P : Program} {w : World} {K : PySem.W.Frag} {mg mb : Str → Option Value} {k : Nat} {fa a : Addr} {fd : FuncData} {x : Str} {sp : Sp} {s : Shared} {H : Hp} (KX : K.In s.heap) (hns : s.heap.Ns mainGlobals mg) (hb : s.heap.Ns builtinsNs mb)
    (hbb : ∀ x : Str, x ≠ "__name__" → mb x = bootBuiltins x) (hlim : s.heap.NoLimit) (hg : s.gens = #[]) (hr : Room k callerA) (F : ∀ base : Heap, K.In base → base.Ns mainGlobals mg → FnG P w K mg base k fa fd [x] sp)
    (hbind : ∀ (s : Shared) (u : Value), BindsTo s fd ⟨[u], []⟩ [(x, u)]) (hok : HOk P w H s.heap) (free : ∀ b o, s.heap.get? b = some o → (K.lookup b ≠ none ∨ ∃ es n, o.data = .dict es n) → H b = none)
    (frz : ∀ b u, H b = some u → ∃ o v, u = .frz o v) (hsp : sp [.ref a] H (fun v _ => v = .bl true) E0) :
    codeAny (model P w) callerA (.call (.ref fa) ⟨[.ref a], []⟩) (fun r s' => r = .ok (.ret (.bool true)) ∧ OldK s.heap s'.heap ∧ s'.os = s.os ∧ AllBare s'.gens) s := by
  have ns : ∀ {b : Addr} {m : Str → Option Value}, s.heap.Ns b m → (hidT s.heap H).Ns b m := fun {b m} h => by
    obtain ⟨o, es, ep, e, d, r⟩ := h
    exact ⟨o, es, ep, hidT_get e (free b o e (.inr ⟨es, ep, d⟩)), d, r⟩
  have kb : K.In (hidT s.heap H) := fun b o e => hidT_get (KX b o e) (free b o (KX b o e) (.inl (by rw [e]; simp)))
  have md : Mod K mg (hidT s.heap H) := by
    refine ⟨kb, ns hns, ⟨mb, ns hb, hbb⟩, ?_⟩
    obtain ⟨mc, h1, h2⟩ := hlim
    exact ⟨mc, ns h1, h2⟩
  have e0 : Env0 P w K mg (hidT s.heap H) callerA [] s H :=
    { frames := rfl, mod := md, bs := fun b o e => of_hidT e, bsz := Nat.le_of_eq (hidT_size _ _), funs := trivial, frf := fun b z => by simp [frs] at z, hok := hok, bare := .of_eq hg }
  refine codeAny_mono ((F _ kb (ns hns)).run callerA [] s H ⟨[.ref a], []⟩ [.ref a] [.ref a] _ E0 hr rfl e0 (hbind s (.ref a)) (.cons rfl .nil) hsp) fun r s' h => ?_
  rcases r with e | fl
  · exact False.elim h
  rcases fl with _ | _ | _ | u
  · exact False.elim h
  · exact False.elim h
  · exact False.elim h
  obtain ⟨v, H', os, bare, un, hok', rv, rfl⟩ := h
  obtain rfl : u = Value.bool true := rv
  refine ⟨rfl, OldK.of_keep fun b o e => ?_, os, bare⟩
  by_cases q : H b = none
  · exact un.keep b o e q (by simp [frs]) (by simp)
  · obtain ⟨u, q⟩ := Option.ne_none_iff_exists'.mp q
    obtain ⟨ob, v, rfl⟩ := frz b u q
    have g1 := (hok b _ q).1
    have g2 := (hok' b _ (un.frzs b ob v q)).1
    rw [e] at g1
    cases g1
    exact g2
/-- .. with the script tracked, or as an object of the module -/
theorem law_g {P : Program} {w : World} {K : PySem.W.Frag} {mg mb : Str → Option Value} {k : Nat} {fa a : Addr} {fd : FuncData} {x : Str} {sp : Sp} {s : Shared} {vs : List Value} {ns : List Int} (KX : K.In s.heap) (hns : s.heap.Ns mainGlobals mg) (hb : s.heap.Ns builtinsNs mb)
    (hbb : ∀ x : Str, x ≠ "__name__" → mb x = bootBuiltins x) (hlim : s.heap.NoLimit) (hg : s.gens = #[]) (ha : s.heap.get? a = some { cls := .type "list", data := .seq vs.toArray }) (hi : IntsAre vs ns) (hl : ns.length ≤ sizeLine) (hr : Room k callerA)
    (F : ∀ base : Heap, K.In base → base.Ns mainGlobals mg → FnG P w K mg base k fa fd [x] sp) (hbind : ∀ (s : Shared) (u : Value), BindsTo s fd ⟨[u], []⟩ [(x, u)])
    (hsp : ∀ H : Hp, SqL K H a (ns.map V.int) → sp [.ref a] H (fun v _ => v = .bl true) E0) :
    codeAny (model P w) callerA (.call (.ref fa) ⟨[.ref a], []⟩) (fun r s' => r = .ok (.ret (.bool true)) ∧ OldK s.heap s'.heap ∧ s'.os = s.os ∧ AllBare s'.gens) s := by
  have rv := vals_ints hi
  by_cases hk : K.lookup a = none
  · let so : Obj := { cls := .type "list", data := .seq vs.toArray }
    have at_a : ∀ b u, (if b = a then some (HO.frz so (.lst (ns.map V.int))) else none) = some u → b = a ∧ u = .frz so (.lst (ns.map V.int)) := fun b u z => by
      by_cases e : b = a
      · rw [if_pos e] at z; cases z; exact ⟨e, rfl⟩
      · rw [if_neg e] at z; cases z
    refine run_law (H := fun b => if b = a then some (.frz so (.lst (ns.map V.int))) else none) KX hns hb hbb hlim hg hr F hbind ?_ ?_ ?_ (hsp _ (.inl (.inr ⟨so, if_pos rfl⟩)))
    · intro b u z
      obtain ⟨rfl, rfl⟩ := at_a b u z
      exact ⟨ha, by rw [List.length_map]; exact hl, vs, _, rv, ha⟩
    · intro b o e h
      by_cases eb : b = a
      · subst eb
        rw [ha] at e
        cases e
        rcases h with h | ⟨es, n, h⟩
        · exact absurd hk h
        · cases h
      · exact if_neg eb
    · intro b u z
      obtain ⟨_, rfl⟩ := at_a b u z
      exact ⟨_, _, rfl⟩
  · obtain ⟨o, hko⟩ := Option.ne_none_iff_exists'.mp hk
    have e := KX a o hko
    rw [ha] at e
    cases e
    refine run_law (H := fun _ => none) KX hns hb hbb hlim hg hr F hbind (fun b u z => nomatch z) (fun _ _ _ _ => rfl) (fun b u z => nomatch z) (hsp _ (.inr ⟨_, vs.toArray, _, hko, rfl, rfl, rfl, ?_, by simpa using rv⟩))
    have := hi.length
    simp; omega
theorem walk_g {l : PySem.W.OpenLaw} {n k : Nat} {q : Program} {loose : List Str} {XP : (Str → Option Value) → Heap → Prop} {YP : World → Heap → Prop} {d : DefRec} {K : Params → PySem.W.Frag} {sp : PySem.W.Frag → Sp} {x : Str}
    (hn : l.most = some n) (hn2 : n ≤ sizeLine) (hdf : d.params.defaults = []) (hr : Room k callerA) (hY : ∀ (w : World) (h : Heap), YP w h → (K w.params).In h)
    (F : ∀ (w : World) (mg : Str → Option Value) (fa : Addr) (h : Heap), (K w.params).In h → h.Ns mainGlobals mg → mg d.name = some (.ref fa) →
      ∃ fd : FuncData, (∀ (s : Shared) (u : Value), BindsTo s fd ⟨[u], []⟩ [(x, u)]) ∧ ∀ base : Heap, (K w.params).In base → base.Ns mainGlobals mg → FnG l.prog w (K w.params) mg base k fa fd [x] (sp (K w.params)))
    (hsp : ∀ (K : PySem.W.Frag) (H : Hp) (a : Addr) (ns : List Int), ns.length ≤ n → SqL K H a (ns.map V.int) → sp K [.ref a] H (fun v _ => v = .bl true) E0) :
    PySem.W.WalkO q loose XP YP l.row.toRowW d [] (fun f vs => PySem.call f vs) := by
  refine Att.attach_call hn hdf fun w s₀ s₁ mg mb fa o pm cd doc a vs ns G Y ho hd hcd hmg hobj hints hlen hg => ?_
  obtain ⟨fd, hb, hF⟩ := F w mg fa _ (hY w _ Y) G.T.g hmg
  exact law_g (hY w _ Y) G.T.g G.T.b G.T.builtins G.T.nolimit hg hobj hints (Nat.le_trans hlen hn2) hr hF hb fun H hS => hsp _ H a ns hlen hS
end Mv
set_option Elab.async false
set_option maxRecDepth 100000
set_option maxHeartbeats 4000000
/-! mvhd: the head by facts: the top's run in the kernel over the heap as a tree, the facts each a Bool of what the top has laid. -/
namespace Mv
open PySem PySem.Spec PyProof.Rows L2
/-! ### forced ahead of use -/
def fcA {β : Type} : List Addr → (List Addr → β) → β
  | [], k => k []
  | a :: r, k => HandSHeadRun.frNat a fun a => fcA r fun r => k (a :: r)
theorem fcA_eq {β : Type} : ∀ (l : List Addr) (k : List Addr → β), fcA l k = k l
  | [], _ => rfl
  | a :: r, k => by
    show HandSHeadRun.frNat a (fun a => fcA r fun r => k (a :: r)) = _
    rw [HandSHeadRun.frNat_eq, fcA_eq r]
def fcO {β : Type} (o : Obj) (k : Obj → β) : β := match o with
  | ⟨c, d, dt, sl⟩ => k ⟨c, d, dt, sl⟩
theorem fcO_eq {β : Type} (o : Obj) (k : Obj → β) : fcO o k = k o := by
  obtain ⟨c, d, dt, sl⟩ := o
  rfl
def fcK {β : Type} : PySem.W.Frag → (PySem.W.Frag → β) → β
  | [], k => k []
  | (a, o) :: r, k => fcO o fun o => fcK r fun r => k ((a, o) :: r)
theorem fcK_eq {β : Type} : ∀ (l : PySem.W.Frag) (k : PySem.W.Frag → β), fcK l k = k l
  | [], _ => rfl
  | (a, o) :: r, k => by
    show fcO o (fun o => fcK r fun r => k ((a, o) :: r)) = _
    rw [fcO_eq, fcK_eq r]
/-! ### what the top has laid -/
/-- objects that nothing here looks at -/
def dull : Obj → Bool
  | ⟨.none, none, .fields vs, _⟩ => vs.isEmpty
  | _ => false
def partG (g : Addr → Option Obj) : List Addr → PySem.W.Frag
  | [] => []
  | a :: r => match g a with
    | some o => (match dull o with
      | true => partG g r
      | false => (a, o) :: partG g r)
    | none => partG g r
theorem partG_at {g : Addr → Option Obj} {a : Addr} {o : Obj} : ∀ as : List Addr, (partG g as).lookup a = some o → g a = some o
  | [], e => nomatch (show (none : Option Obj) = some o from e)
  | b :: r, e => by
    unfold partG at e
    cases hb : g b with
    | none =>
      rw [hb] at e
      exact partG_at r e
    | some ob =>
      rw [hb] at e
      dsimp only at e
      cases hd : dull ob with
      | true =>
        rw [hd] at e
        exact partG_at r e
      | false =>
        rw [hd] at e
        have e2 : (match a == b with | true => some ob | false => (partG g r).lookup a) = some o := e
        cases q : (a == b) with
        | true =>
          rw [q] at e2
          cases e2
          rw [beq_iff_eq.mp q, hb]
        | false =>
          rw [q] at e2
          exact partG_at r e2
def upTo : Nat → Nat → List Addr
  | 0, _ => []
  | m + 1, n => n :: upTo m (n + 1)
/-! ### defs -/
structure DM where
  ad : PySem.W.Frag → Addr
  name : Str
  qual : Str
  st : Stmt
  dv : List He.Dv := []
abbrev SeeT : Type := Option (Str × Str × Arguments × FuncBody × Scope × Addr × List (Str × Addr) × Addr)
def DM.see (K : PySem.W.Frag) (d : DM) : SeeT := match K.lookup (d.ad K) with
  | some ⟨_, _, .func u, _⟩ => some (u.name, u.qualname, u.params, u.body, u.scope, u.globals, u.closure, u.builtins)
  | _ => none
def DM.val (d : DM) : SeeT := some (d.name, d.qual, defArgs d.st, .stmts (defBody d.st), defScope d.st, mainGlobals, [], builtinsNs)
def DM.dvs (K : PySem.W.Frag) (d : DM) : List V := d.dv.map (He.Dv.v K)
def DM.ok (K : PySem.W.Frag) (d : DM) : Bool := PySem.W.keepIn K (.ref (d.ad K)) && (match K.lookup (d.ad K) with
  | some ⟨_, _, .func u, _⟩ => PySem.W.codeIn K u.code d.qual && He.dflB K u.defaults (d.dvs K)
  | _ => false)
theorem DM.df {K : PySem.W.Frag} {d : DM} (e : d.see K = d.val) (c : d.ok K = true) : ∃ fd, Df K d.name d.qual d.st (d.dvs K) (d.ad K) fd := by
  have ⟨kp, c2⟩ := Bool.and_eq_true_iff.mp c
  unfold DM.see DM.val at e
  rcases q : K.lookup (d.ad K) with _ | ⟨oc, od, dt, osl⟩
  · rw [q] at c2; cases c2
  · rw [q] at c2 e
    cases dt with
    | func u =>
      have ⟨k1, k2⟩ := Bool.and_eq_true_iff.mp (show (PySem.W.codeIn K u.code d.qual && He.dflB K u.defaults (d.dvs K)) = true from c2)
      have k3 := He.dflB_ok k2
      cases u
      injection e with e
      simp only [Prod.mk.injEq] at e
      obtain ⟨rfl, rfl, h3, h4, h5, h6, h7, h8⟩ := e
      subst h3 h4 h5 h6 h7 h8
      exact ⟨_, ⟨oc, od, _, _, _, _, _, _, _, osl, rfl, q, k1, k3, .inl rfl⟩, kp⟩
    | _ => cases c2
/-! ### the Hook -/
abbrev AlM : Type := Bool × List SeeT
def obK (fa : List (PySem.W.Frag → Bool)) (fn : List DM) (K : PySem.W.Frag) : AlM := ((fa.all fun f => f K) && fn.all fun d => d.ok K, fn.map fun d => d.see K)
def vaM (fn : List DM) : AlM := (true, fn.map DM.val)
def SaM (fa : List (PySem.W.Frag → Bool)) (fn : List DM) (K : PySem.W.Frag) : Prop := obK fa fn K = vaM fn
def obM (n0 : Nat) (fa : List (PySem.W.Frag → Bool)) (fn : List DM) (n : Nat) (g : Addr → Option Obj) : AlM :=
  fcA (mainGlobals :: cStatics :: upTo (n - n0) n0) fun as => fcK (partG g as) fun K => obK fa fn K
theorem obM_eq {n0 : Nat} {fa : List (PySem.W.Frag → Bool)} {fn : List DM} {n : Nat} {g : Addr → Option Obj} : obM n0 fa fn n g = obK fa fn (partG g (mainGlobals :: cStatics :: upTo (n - n0) n0)) := by
  unfold obM
  rw [fcA_eq, fcK_eq]
def hookM (n0 : Nat) (fa : List (PySem.W.Frag → Bool)) (fn : List DM) : PySem.W.Hook where
  α := AlM
  obs := fun s => obM n0 fa fn s.heap.objs.size s.heap.get?
  val := fun _ => vaM fn
  says := fun _ h => ∃ K : PySem.W.Frag, K.In h ∧ SaM fa fn K
  of := fun _ _ e => ⟨_, fun _ _ => partG_at _, obM_eq.symm.trans e⟩
  keeps := fun _ _ _ ⟨K, hK, c⟩ k => ⟨K, PySem.W.Frag.In.keeps hK k, c⟩
def seeM (n0 : Nat) (fa : List (PySem.W.Frag → Bool)) (fn : List DM) (s : PySem.W.SharedT) : AlM := HandSHeadRun.frNat s.n fun n => obM n0 fa fn n (HandSHeadRun.getT s)
theorem seeM_eq {n0 : Nat} {fa : List (PySem.W.Frag → Bool)} {fn : List DM} (s : PySem.W.SharedT) : seeM n0 fa fn s = (hookM n0 fa fn).obs s.abs := by
  unfold seeM
  rw [HandSHeadRun.frNat_eq]
  have e : HandSHeadRun.getT s = s.abs.heap.get? := funext (HandSHeadRun.getT_eq s)
  have n : s.abs.heap.objs.size = s.n := PySem.W.absHeap_size _ _ _
  show _ = obM n0 fa fn s.abs.heap.objs.size s.abs.heap.get?
  rw [e, n]
theorem SaM.fact {fa : List (PySem.W.Frag → Bool)} {fn : List DM} {K : PySem.W.Frag} (c : SaM fa fn K) (i : Nat) {f : PySem.W.Frag → Bool} (h : fa[i]? = some f) : f K = true := by
  have c1 : ((fa.all fun f => f K) && fn.all fun d => d.ok K) = true := congrArg (fun z : AlM => z.1) c
  exact List.all_eq_true.mp (Bool.and_eq_true_iff.mp c1).1 f (List.mem_of_getElem? h)
theorem SaM.def_ {fa : List (PySem.W.Frag → Bool)} {fn : List DM} {K : PySem.W.Frag} (c : SaM fa fn K) (i : Nat) {d : DM} (h : fn[i]? = some d) : ∃ fd, Df K d.name d.qual d.st (d.dvs K) (d.ad K) fd := by
  have c1 : ((fa.all fun f => f K) && fn.all fun d => d.ok K) = true := congrArg (fun z : AlM => z.1) c
  have c2 : fn.map (fun d => d.see K) = fn.map DM.val := congrArg (fun z : AlM => z.2) c
  have e : (fn.map fun d => d.see K)[i]? = (fn.map DM.val)[i]? := by rw [c2]
  rw [List.getElem?_map, List.getElem?_map, h] at e
  exact DM.df (Option.some.inj e) (List.all_eq_true.mp (Bool.and_eq_true_iff.mp c1).2 d (List.mem_of_getElem? h))
/-! ### readings of what was found -/
/-- a class's own property: its getter -/
def recAd (K : PySem.W.Frag) (p : Addr) (T : String) : Addr := match PySem.W.recIn K p T with
  | some (.ref a :: _) => a
  | _ => 0
def recB (K : PySem.W.Frag) (p : Addr) (T : String) (f : Addr) : Bool := match PySem.W.recIn K p T with
  | some (.ref a :: _) => decide (a = f)
  | _ => false
theorem recB_ok {K : PySem.W.Frag} {p : Addr} {T : String} {f : Addr} (h : recB K p T f = true) : ∃ r, PySem.W.recIn K p T = some (.ref f :: r) := by
  unfold recB at h
  split at h
  · rename_i a r e
    rw [e, of_decide_eq_true h]
    exact ⟨_, rfl⟩
  · cases h
def strB (o : Option (Option Value)) (z : Str) : Bool := match o with
  | some (some (.str y _)) => decide (y = z)
  | _ => false
theorem strB_ok {o : Option (Option Value)} {z : Str} (h : strB o z = true) : ∃ t, o = some (some (.str z t)) := by
  unfold strB at h
  split at h
  · rw [of_decide_eq_true h]
    exact ⟨_, rfl⟩
  · cases h
def intB (o : Option (Option Value)) (i : Int) : Bool := match o with
  | some (some (.int j _)) => decide (j = i)
  | _ => false
theorem intB_ok {o : Option (Option Value)} {i : Int} (h : intB o i = true) : ∃ t, o = some (some (.int i t)) := by
  unfold intB at h
  split at h
  · rw [of_decide_eq_true h]
    exact ⟨_, rfl⟩
  · cases h
def cvB (o : Option PySem.W.CFound) (i : Int) : Bool := match o with
  | some (.val (.int j _)) => decide (j = i)
  | _ => false
theorem cvB_ok {o : Option PySem.W.CFound} {i : Int} (h : cvB o i = true) : ∃ t, o = some (.val (.int i t)) := by
  unfold cvB at h
  split at h
  · rw [of_decide_eq_true h]
    exact ⟨_, rfl⟩
  · cases h
/-- found at a class: a static method, a class method -/
def sgAd (o : Option PySem.W.CFound) : Addr := match o with
  | some (.get _ (.ref p) _ _) => p
  | _ => 0
def sgB (o : Option PySem.W.CFound) (g : String) (p : Addr) (x c : Value) : Bool := match o with
  | some (.get (.builtin h) (.ref q) y d) => decide (h = g) && (decide (q = p) && (decide (y = x) && decide (d = c)))
  | _ => false
theorem sgB_ok {o : Option PySem.W.CFound} {g : String} {p : Addr} {x c : Value} (h : sgB o g p x c = true) : o = some (.get (.builtin g) (.ref p) x c) := by
  unfold sgB at h
  split at h
  · have ⟨h1, h⟩ := Bool.and_eq_true_iff.mp h
    have ⟨h2, h⟩ := Bool.and_eq_true_iff.mp h
    have ⟨h3, h4⟩ := Bool.and_eq_true_iff.mp h
    rw [of_decide_eq_true h1, of_decide_eq_true h2, of_decide_eq_true h3, of_decide_eq_true h4]
  · cases h
/-- a tuple of two texts -/
def tup2B (o : Option Obj) (x y : Str) : Bool := match o with
  | some ⟨.type c, none, .seq its _, _⟩ => decide (c = "tuple") && (match its.toList with
    | [.str a _, .str b _] => decide (a = x) && decide (b = y)
    | _ => false)
  | _ => false
theorem tup2B_ok {o : Option Obj} {x y : Str} (h : tup2B o x y = true) : ∃ t u n s, o = some ⟨.type "tuple", none, .seq #[.str x t, .str y u] n, s⟩ := by
  unfold tup2B at h
  split at h
  · rename_i c its n s
    have ⟨h1, h2⟩ := Bool.and_eq_true_iff.mp h
    split at h2
    · rename_i a t b u e
      have ⟨h3, h4⟩ := Bool.and_eq_true_iff.mp h2
      have e2 : its = #[.str a t, .str b u] := by
        apply Array.toList_inj.mp
        rw [e]
      rw [of_decide_eq_true h1, e2, of_decide_eq_true h3, of_decide_eq_true h4]
      exact ⟨_, _, _, _, rfl⟩
    · cases h2
  · cases h
/-! ### the end -/
theorem walk_gM {l : PySem.W.OpenLaw} {n k : Nat} {q : Program} {loose : List Str} {XP : (Str → Option Value) → Heap → Prop} {YP : World → Heap → Prop} {d : DefRec} {sp : PySem.W.Frag → Sp} {x : Str}
    (hn : l.most = some n) (hn2 : n ≤ sizeLine) (hdf : d.params.defaults = []) (hr : Room k callerA)
    (F : ∀ (w : World) (mg : Str → Option Value) (fa : Addr) (h : Heap), YP w h → h.Ns mainGlobals mg → mg d.name = some (.ref fa) →
      ∃ (K : PySem.W.Frag) (fd : FuncData), K.In h ∧ (∀ (s : Shared) (u : Value), BindsTo s fd ⟨[u], []⟩ [(x, u)]) ∧ ∀ base : Heap, K.In base → base.Ns mainGlobals mg → FnG l.prog w K mg base k fa fd [x] (sp K))
    (hsp : ∀ (K : PySem.W.Frag) (H : Hp) (a : Addr) (ns : List Int), ns.length ≤ n → SqL K H a (ns.map V.int) → sp K [.ref a] H (fun v _ => v = .bl true) E0) :
    PySem.W.WalkO q loose XP YP l.row.toRowW d [] (fun f vs => PySem.call f vs) := by
  refine Att.attach_call hn hdf fun w s₀ s₁ mg mb fa o pm cd doc a vs ns G Y ho hd hcd hmg hobj hints hlen hg => ?_
  obtain ⟨K, fd, KX, hb, hF⟩ := F w mg fa _ Y G.T.g hmg
  exact law_g KX G.T.g G.T.b G.T.builtins G.T.nolimit hg hobj hints (Nat.le_trans hlen hn2) hr hF hb fun H hS => hsp _ H a ns hlen hS
end Mv
set_option Elab.async false
set_option maxRecDepth 100000
set_option maxHeartbeats 4000000
namespace T0
open PySem L2 Mv
open He (ga ma)
def top (i : Nat) : Stmt := PySem.Challenge.pw_movecells_k51_whole_greatest_distances.main.body.getD i (.Pass ⟨0, 0, 0, 0⟩)
def q0 (K : PySem.W.Frag) : Bool := decide (PySem.W.specialIn K (.builtin "object.__class__") "__get__" = some (some (.builtin "getset_descriptor.__get__")))
def q1 (K : PySem.W.Frag) : Bool := decide (PySem.W.takesIn K (.builtin "object.__class__") = some true)
def q2 (K : PySem.W.Frag) : Bool := decide (PySem.W.nsIn K mainGlobals "len" = some none)
def q3 (K : PySem.W.Frag) : Bool := decide (PySem.W.nsIn K mainGlobals "abs" = some none)
def q4 (K : PySem.W.Frag) : Bool := decide (PySem.W.nsIn K mainGlobals "max" = some none)
def q5 (K : PySem.W.Frag) : Bool := decide (PySem.W.nsIn K mainGlobals "min" = some none)
def q6 (K : PySem.W.Frag) : Bool := decide (PySem.W.nsIn K mainGlobals "int" = some none)
def q7 (K : PySem.W.Frag) : Bool := decide (PySem.W.nsIn K mainGlobals "bool" = some none)
def q8 (K : PySem.W.Frag) : Bool := decide (PySem.W.nsIn K mainGlobals "str" = some none)
def q9 (K : PySem.W.Frag) : Bool := decide (PySem.W.nsIn K mainGlobals "repr" = some none)
def q10 (K : PySem.W.Frag) : Bool := decide (PySem.W.nsIn K mainGlobals "all" = some none)
def q11 (K : PySem.W.Frag) : Bool := decide (PySem.W.nsIn K mainGlobals "any" = some none)
def q12 (K : PySem.W.Frag) : Bool := decide (PySem.W.nsIn K mainGlobals "range" = some none)
def q13 (K : PySem.W.Frag) : Bool := decide (PySem.W.nsIn K mainGlobals "divmod" = some none)
def q14 (K : PySem.W.Frag) : Bool := decide (PySem.W.nsIn K mainGlobals "isinstance" = some none)
def q15 (K : PySem.W.Frag) : Bool := decide (PySem.W.nsIn K mainGlobals "list" = some none)
def q16 (K : PySem.W.Frag) : Bool := decide (PySem.W.nsIn K mainGlobals "tuple" = some none)
def q17 (K : PySem.W.Frag) : Bool := decide (PySem.W.nsIn K mainGlobals "dict" = some none)
def q18 (K : PySem.W.Frag) : Bool := decide (PySem.W.nsIn K mainGlobals "enumerate" = some none)
def q19 (K : PySem.W.Frag) : Bool := decide (PySem.W.nsIn K mainGlobals "zip" = some none)
def q20 (K : PySem.W.Frag) : Bool := decide (PySem.W.nsIn K mainGlobals "sorted" = some none)
def q21 (K : PySem.W.Frag) : Bool := decide (PySem.W.nsIn K mainGlobals "sum" = some none)
def q22 (K : PySem.W.Frag) : Bool := decide (PySem.W.nsIn K mainGlobals "type" = some none)
def q23 (K : PySem.W.Frag) : Bool := decide (PySem.W.nsIn K mainGlobals "Ratio" = some (some (.ref (ga K "Ratio"))))
def q24 (K : PySem.W.Frag) : Bool := PySem.W.plainGet K (ga K "Ratio") Str.empty
def q25 (K : PySem.W.Frag) : Bool := PySem.W.hasDictIn K (ga K "Ratio")
def q26 (K : PySem.W.Frag) : Bool := PySem.W.plainOver K (ga K "Ratio")
def q27 (K : PySem.W.Frag) : Bool := decide (PySem.W.findIn K (.ref (ga K "Ratio")) "__setattr__" = some (some (.builtin "object.__setattr__")))
def q28 (K : PySem.W.Frag) : Bool := PySem.W.makesIn K (ga K "Ratio")
def q29 (K : PySem.W.Frag) : Bool := PySem.W.keepIn K (.ref (ga K "Ratio"))
def q30 (K : PySem.W.Frag) : Bool := decide (PySem.W.findIn K (.ref (ga K "Ratio")) "__class__" = some (some (.builtin "object.__class__")))
def q31 (K : PySem.W.Frag) : Bool := decide (PySem.W.mroIn K (ga K "Ratio") (.type "object") = some true)
def q32 (K : PySem.W.Frag) : Bool := decide (PySem.W.kitOne K (.ref (ga K "Ratio")) (.ref (ga K "Ratio")) = some true)
def q33 (K : PySem.W.Frag) : Bool := decide (PySem.W.findIn K (.ref (ga K "Ratio")) "__ne__" = some (some (.builtin "object.__ne__")))
def q34 (K : PySem.W.Frag) : Bool := decide (PySem.W.findIn K (.ref (ga K "Ratio")) "own_top" = some none)
def q35 (K : PySem.W.Frag) : Bool := decide (PySem.W.findIn K (.ref (ga K "Ratio")) "own_bottom" = some none)
def q36 (K : PySem.W.Frag) : Bool := decide (PySem.W.kitOne K (.ref (ga K "Ratio")) (.type "int") = some false)
def q37 (K : PySem.W.Frag) : Bool := decide (PySem.W.kitOne K (.ref (ga K "Ratio")) (.type "bool") = some false)
def q38 (K : PySem.W.Frag) : Bool := decide (PySem.W.kitOne K (.type "int") (.ref (ga K "Ratio")) = some false)
def q39 (K : PySem.W.Frag) : Bool := decide (PySem.W.findIn K (.ref (ga K "Ratio")) "__rmul__" = some (some (.ref (ma K (ga K "Ratio") "__rmul__"))))
def q40 (K : PySem.W.Frag) : Bool := decide (PySem.W.findIn K (.type "int") "__mul__" = some ((PySem.W.findIn K (.type "int") "__mul__").getD none))
def q41 (K : PySem.W.Frag) : Bool := decide (PySem.W.findIn K (.type "int") "__rmul__" = some ((PySem.W.findIn K (.type "int") "__rmul__").getD none))
def q42 (K : PySem.W.Frag) : Bool := decide (PySem.W.subIn K (.type "int") (.ref (ga K "Ratio")) = some false)
def q43 (K : PySem.W.Frag) : Bool := decide (PySem.W.nsIn K mainGlobals "Plan" = some (some (.ref (ga K "Plan"))))
def q44 (K : PySem.W.Frag) : Bool := PySem.W.plainGet K (ga K "Plan") Str.empty
def q45 (K : PySem.W.Frag) : Bool := PySem.W.hasDictIn K (ga K "Plan")
def q46 (K : PySem.W.Frag) : Bool := PySem.W.plainOver K (ga K "Plan")
def q47 (K : PySem.W.Frag) : Bool := decide (PySem.W.findIn K (.ref (ga K "Plan")) "__setattr__" = some (some (.builtin "object.__setattr__")))
def q48 (K : PySem.W.Frag) : Bool := PySem.W.makesIn K (ga K "Plan")
def q49 (K : PySem.W.Frag) : Bool := PySem.W.keepIn K (.ref (ga K "Plan"))
def q50 (K : PySem.W.Frag) : Bool := decide (PySem.W.findIn K (.ref (ga K "Plan")) "__class__" = some (some (.builtin "object.__class__")))
def q51 (K : PySem.W.Frag) : Bool := decide (PySem.W.mroIn K (ga K "Plan") (.type "object") = some true)
def q52 (K : PySem.W.Frag) : Bool := decide (PySem.W.kitOne K (.ref (ga K "Plan")) (.ref (ga K "Plan")) = some true)
def q53 (K : PySem.W.Frag) : Bool := decide (PySem.W.findIn K (.ref (ga K "Plan")) "__ne__" = some (some (.builtin "object.__ne__")))
def q54 (K : PySem.W.Frag) : Bool := decide (PySem.W.findIn K (.ref (ga K "Plan")) "own_rounds" = some none)
def q55 (K : PySem.W.Frag) : Bool := decide (PySem.W.findIn K (.ref (ga K "Plan")) "own_parts" = some none)
def q56 (K : PySem.W.Frag) : Bool := decide (PySem.W.findIn K (.ref (ga K "Plan")) "own_growth" = some none)
def q57 (K : PySem.W.Frag) : Bool := strB (PySem.W.nsIn K mainGlobals "EAST") "east"
def q58 (K : PySem.W.Frag) : Bool := strB (PySem.W.nsIn K mainGlobals "NORTH") "north"
def q59 (K : PySem.W.Frag) : Bool := intB (PySem.W.nsIn K mainGlobals "FEWEST_PARTS") 2
def q60 (K : PySem.W.Frag) : Bool := intB (PySem.W.nsIn K mainGlobals "MOST_PARTS") 4
def q61 (K : PySem.W.Frag) : Bool := intB (PySem.W.nsIn K mainGlobals "MOST_FINE") 1000
def q62 (K : PySem.W.Frag) : Bool := decide (PySem.W.nsIn K mainGlobals "AXES" = some (some (.ref (ga K "AXES"))))
def q63 (K : PySem.W.Frag) : Bool := tup2B (K.lookup (ga K "AXES")) "east" "north"
def q64 (K : PySem.W.Frag) : Bool := decide (PySem.W.typeIn K (.ref (ga K "Plan")) = some (.type "type"))
def q65 (K : PySem.W.Frag) : Bool := decide (PySem.W.specialIn K (.ref (ga K "Plan")) "__getattribute__" = some (some (.builtin "type.__getattribute__")))
def q66 (K : PySem.W.Frag) : Bool := PySem.W.readsIn K (ga K "Plan") (.type "type")
def q67 (K : PySem.W.Frag) : Bool := cvB (PySem.W.findCls K (.ref (ga K "Plan")) (.type "type") "MOST_ROUNDS") 3
def q68 (K : PySem.W.Frag) : Bool := cvB (PySem.W.findCls K (.ref (ga K "Plan")) (.type "type") "MOST_CUTS") 5
def q69 (K : PySem.W.Frag) : Bool := cvB (PySem.W.findCls K (.ref (ga K "Plan")) (.type "type") "MOST_SIGNS") 32
def q70 (K : PySem.W.Frag) : Bool := decide (PySem.W.nsIn K mainGlobals "Map" = some (some (.ref (ga K "Map"))))
def q71 (K : PySem.W.Frag) : Bool := PySem.W.plainGet K (ga K "Map") Str.empty
def q72 (K : PySem.W.Frag) : Bool := PySem.W.hasDictIn K (ga K "Map")
def q73 (K : PySem.W.Frag) : Bool := PySem.W.plainOver K (ga K "Map")
def q74 (K : PySem.W.Frag) : Bool := decide (PySem.W.findIn K (.ref (ga K "Map")) "__setattr__" = some (some (.builtin "object.__setattr__")))
def q75 (K : PySem.W.Frag) : Bool := PySem.W.makesIn K (ga K "Map")
def q76 (K : PySem.W.Frag) : Bool := PySem.W.keepIn K (.ref (ga K "Map"))
def q77 (K : PySem.W.Frag) : Bool := decide (PySem.W.findIn K (.ref (ga K "Map")) "__class__" = some (some (.builtin "object.__class__")))
def q78 (K : PySem.W.Frag) : Bool := decide (PySem.W.mroIn K (ga K "Map") (.type "object") = some true)
def q79 (K : PySem.W.Frag) : Bool := decide (PySem.W.kitOne K (.ref (ga K "Map")) (.ref (ga K "Map")) = some true)
def q80 (K : PySem.W.Frag) : Bool := decide (PySem.W.findIn K (.ref (ga K "Map")) "__ne__" = some (some (.builtin "object.__ne__")))
def q81 (K : PySem.W.Frag) : Bool := decide (PySem.W.findIn K (.ref (ga K "Map")) "own_plan" = some none)
def q82 (K : PySem.W.Frag) : Bool := decide (PySem.W.findIn K (.ref (ga K "Map")) "own_lengths" = some none)
def q83 (K : PySem.W.Frag) : Bool := decide (PySem.W.findIn K (.ref (ga K "Map")) "own_closed" = some none)
def q84 (K : PySem.W.Frag) : Bool := decide (PySem.W.nsIn K mainGlobals "Gauge" = some (some (.ref (ga K "Gauge"))))
def q85 (K : PySem.W.Frag) : Bool := PySem.W.plainGet K (ga K "Gauge") Str.empty
def q86 (K : PySem.W.Frag) : Bool := PySem.W.hasDictIn K (ga K "Gauge")
def q87 (K : PySem.W.Frag) : Bool := PySem.W.plainOver K (ga K "Gauge")
def q88 (K : PySem.W.Frag) : Bool := decide (PySem.W.findIn K (.ref (ga K "Gauge")) "__setattr__" = some (some (.builtin "object.__setattr__")))
def q89 (K : PySem.W.Frag) : Bool := PySem.W.makesIn K (ga K "Gauge")
def q90 (K : PySem.W.Frag) : Bool := PySem.W.keepIn K (.ref (ga K "Gauge"))
def q91 (K : PySem.W.Frag) : Bool := decide (PySem.W.findIn K (.ref (ga K "Gauge")) "__class__" = some (some (.builtin "object.__class__")))
def q92 (K : PySem.W.Frag) : Bool := decide (PySem.W.mroIn K (ga K "Gauge") (.type "object") = some true)
def q93 (K : PySem.W.Frag) : Bool := decide (PySem.W.kitOne K (.ref (ga K "Gauge")) (.ref (ga K "Gauge")) = some true)
def q94 (K : PySem.W.Frag) : Bool := decide (PySem.W.findIn K (.ref (ga K "Gauge")) "__ne__" = some (some (.builtin "object.__ne__")))
def q95 (K : PySem.W.Frag) : Bool := decide (PySem.W.findIn K (.ref (ga K "Gauge")) "own_area" = some none)
def q96 (K : PySem.W.Frag) : Bool := decide (PySem.W.findIn K (.ref (ga K "Gauge")) "own_reaches" = some none)
def q97 (K : PySem.W.Frag) : Bool := decide (PySem.W.findIn K (.ref (ga K "Gauge")) "own_kind" = some none)
def q98 (K : PySem.W.Frag) : Bool := decide (PySem.W.findIn K (.ref (ga K "Gauge")) "own_sides" = some none)
def q99 (K : PySem.W.Frag) : Bool := decide (PySem.W.findIn K (.ref (ga K "Gauge")) "own_bounds" = some none)
def q100 (K : PySem.W.Frag) : Bool := decide (PySem.W.nsIn K mainGlobals "KINDS" = some (some (.ref (ga K "KINDS"))))
def q101 (K : PySem.W.Frag) : Bool := tup2B (K.lookup (ga K "KINDS")) "box" "sum"
def q102 (K : PySem.W.Frag) : Bool := decide (PySem.W.nsIn K mainGlobals "law" = some (some (.ref (ga K "law"))))
def q103 (K : PySem.W.Frag) : Bool := decide (PySem.W.nsIn K mainGlobals "_law_pot" = some (some (.ref (ga K "_law_pot"))))
def q104 (K : PySem.W.Frag) : Bool := decide (PySem.W.nsIn K mainGlobals "_law_right" = some (some (.ref (ga K "_law_right"))))
def q105 (K : PySem.W.Frag) : Bool := decide (PySem.W.nsIn K mainGlobals "_law_draw" = some (some (.ref (ga K "_law_draw"))))
def q106 (K : PySem.W.Frag) : Bool := decide (PySem.W.nsIn K mainGlobals "_law_model" = some (some (.ref (ga K "_law_model"))))
def q107 (K : PySem.W.Frag) : Bool := decide (PySem.W.nsIn K mainGlobals "_law_pick" = some (some (.ref (ga K "_law_pick"))))
def q108 (K : PySem.W.Frag) : Bool := decide (PySem.W.nsIn K mainGlobals "_law_rounds" = some (some (.ref (ga K "_law_rounds"))))
def q109 (K : PySem.W.Frag) : Bool := decide (PySem.W.nsIn K mainGlobals "_law_length" = some (some (.ref (ga K "_law_length"))))
def q110 (K : PySem.W.Frag) : Bool := decide (PySem.W.nsIn K mainGlobals "_law_reach" = some (some (.ref (ga K "_law_reach"))))
def q111 (K : PySem.W.Frag) : Bool := decide (PySem.W.nsIn K mainGlobals "_law_gauge" = some (some (.ref (ga K "_law_gauge"))))
def q112 (K : PySem.W.Frag) : Bool := decide (PySem.W.nsIn K mainGlobals "_law_passed" = some (some (.ref (ga K "_law_passed"))))
def q113 (K : PySem.W.Frag) : Bool := decide (PySem.W.findIn K (.ref (ga K "Ratio")) "__init__" = some (some (.ref (ma K (ga K "Ratio") "__init__"))))
def q114 (K : PySem.W.Frag) : Bool := PySem.W.isFn K (.ref (ma K (ga K "Ratio") "__init__"))
def q115 (K : PySem.W.Frag) : Bool := decide (PySem.W.nsIn K mainGlobals "is_integer" = some (some (.ref (ga K "is_integer"))))
def q116 (K : PySem.W.Frag) : Bool := decide (PySem.W.nsIn K mainGlobals "common_part" = some (some (.ref (ga K "common_part"))))
def q117 (K : PySem.W.Frag) : Bool := decide (PySem.W.nsIn K mainGlobals "_law_area" = some (some (.ref (ga K "_law_area"))))
def q118 (K : PySem.W.Frag) : Bool := decide (PySem.W.nsIn K mainGlobals "_law_plan" = some (some (.ref (ga K "_law_plan"))))
def q119 (K : PySem.W.Frag) : Bool := decide (PySem.W.findIn K (.ref (ga K "Plan")) "__init__" = some (some (.ref (ma K (ga K "Plan") "__init__"))))
def q120 (K : PySem.W.Frag) : Bool := PySem.W.isFn K (.ref (ma K (ga K "Plan") "__init__"))
def q121 (K : PySem.W.Frag) : Bool := decide (PySem.W.nsIn K mainGlobals "want_rounds" = some (some (.ref (ga K "want_rounds"))))
def q122 (K : PySem.W.Frag) : Bool := decide (PySem.W.nsIn K mainGlobals "is_round" = some (some (.ref (ga K "is_round"))))
def q123 (K : PySem.W.Frag) : Bool := decide (PySem.W.nsIn K mainGlobals "is_list" = some (some (.ref (ga K "is_list"))))
def q124 (K : PySem.W.Frag) : Bool := decide (PySem.W.nsIn K mainGlobals "is_cut" = some (some (.ref (ga K "is_cut"))))
def q125 (K : PySem.W.Frag) : Bool := decide (PySem.W.nsIn K mainGlobals "is_axis" = some (some (.ref (ga K "is_axis"))))
def q126 (K : PySem.W.Frag) : Bool := decide (PySem.W.nsIn K mainGlobals "are_parts" = some (some (.ref (ga K "are_parts"))))
def q127 (K : PySem.W.Frag) : Bool := decide (PySem.W.nsIn K mainGlobals "parts_along" = some (some (.ref (ga K "parts_along"))))
def q128 (K : PySem.W.Frag) : Bool := decide (PySem.W.findIn K (.ref (ga K "Plan")) "product_of" = some (some (.ref (ma K (ga K "Plan") "product_of"))))
def q129 (K : PySem.W.Frag) : Bool := PySem.W.isFn K (.ref (ma K (ga K "Plan") "product_of"))
def q130 (K : PySem.W.Frag) : Bool := decide (PySem.W.findIn K (.ref (ga K "Map")) "__init__" = some (some (.ref (ma K (ga K "Map") "__init__"))))
def q131 (K : PySem.W.Frag) : Bool := PySem.W.isFn K (.ref (ma K (ga K "Map") "__init__"))
def q132 (K : PySem.W.Frag) : Bool := decide (PySem.W.nsIn K mainGlobals "want_plan" = some (some (.ref (ga K "want_plan"))))
def q133 (K : PySem.W.Frag) : Bool := decide (PySem.W.nsIn K mainGlobals "want_length" = some (some (.ref (ga K "want_length"))))
def q134 (K : PySem.W.Frag) : Bool := decide (PySem.W.nsIn K mainGlobals "is_length" = some (some (.ref (ga K "is_length"))))
def q135 (K : PySem.W.Frag) : Bool := decide (PySem.W.nsIn K mainGlobals "is_number" = some (some (.ref (ga K "is_number"))))
def q136 (K : PySem.W.Frag) : Bool := decide (PySem.W.nsIn K mainGlobals "as_ratio" = some (some (.ref (ga K "as_ratio"))))
def q137 (K : PySem.W.Frag) : Bool := decide (PySem.W.findIn K (.ref (ga K "Ratio")) "sign" = some (some (.ref (ma K (ga K "Ratio") "sign"))))
def q138 (K : PySem.W.Frag) : Bool := decide (PySem.W.specialIn K (.ref (ma K (ga K "Ratio") "sign")) "__get__" = some (some (.builtin "property.__get__")))
def q139 (K : PySem.W.Frag) : Bool := decide (PySem.W.takesIn K (.ref (ma K (ga K "Ratio") "sign")) = some true)
def q140 (K : PySem.W.Frag) : Bool := recB K (ma K (ga K "Ratio") "sign") "property" (recAd K (ma K (ga K "Ratio") "sign") "property")
def q141 (K : PySem.W.Frag) : Bool := decide (PySem.W.nsIn K mainGlobals "are_axes" = some (some (.ref (ga K "are_axes"))))
def q142 (K : PySem.W.Frag) : Bool := decide (PySem.W.findIn K (.ref (ga K "Gauge")) "__init__" = some (some (.ref (ma K (ga K "Gauge") "__init__"))))
def q143 (K : PySem.W.Frag) : Bool := PySem.W.isFn K (.ref (ma K (ga K "Gauge") "__init__"))
def q144 (K : PySem.W.Frag) : Bool := decide (PySem.W.nsIn K mainGlobals "want_map" = some (some (.ref (ga K "want_map"))))
def q145 (K : PySem.W.Frag) : Bool := decide (PySem.W.nsIn K mainGlobals "is_reach" = some (some (.ref (ga K "is_reach"))))
def q146 (K : PySem.W.Frag) : Bool := decide (PySem.W.findIn K (.ref (ga K "Ratio")) "is_below" = some (some (.ref (ma K (ga K "Ratio") "is_below"))))
def q147 (K : PySem.W.Frag) : Bool := PySem.W.isFn K (.ref (ma K (ga K "Ratio") "is_below"))
def q148 (K : PySem.W.Frag) : Bool := decide (PySem.W.nsIn K mainGlobals "want_number" = some (some (.ref (ga K "want_number"))))
def q149 (K : PySem.W.Frag) : Bool := decide (PySem.W.nsIn K mainGlobals "want_kind" = some (some (.ref (ga K "want_kind"))))
def q150 (K : PySem.W.Frag) : Bool := decide (PySem.W.nsIn K mainGlobals "_law_counts" = some (some (.ref (ga K "_law_counts"))))
def q151 (K : PySem.W.Frag) : Bool := decide (PySem.W.nsIn K mainGlobals "_law_top" = some (some (.ref (ga K "_law_top"))))
def q152 (K : PySem.W.Frag) : Bool := decide (PySem.W.nsIn K mainGlobals "_law_top_at" = some (some (.ref (ga K "_law_top_at"))))
def q153 (K : PySem.W.Frag) : Bool := decide (PySem.W.nsIn K mainGlobals "_law_is_less" = some (some (.ref (ga K "_law_is_less"))))
def q154 (K : PySem.W.Frag) : Bool := decide (PySem.W.nsIn K mainGlobals "_law_is_told" = some (some (.ref (ga K "_law_is_told"))))
def q155 (K : PySem.W.Frag) : Bool := decide (PySem.W.findIn K (.ref (ga K "Ratio")) "__eq__" = some (some (.ref (ma K (ga K "Ratio") "__eq__"))))
def q156 (K : PySem.W.Frag) : Bool := PySem.W.isFn K (.ref (ma K (ga K "Ratio") "__eq__"))
def q157 (K : PySem.W.Frag) : Bool := decide (PySem.W.findIn K (.ref (ga K "Gauge")) "greatest" = some (some (.ref (ma K (ga K "Gauge") "greatest"))))
def q158 (K : PySem.W.Frag) : Bool := PySem.W.isFn K (.ref (ma K (ga K "Gauge") "greatest"))
def q159 (K : PySem.W.Frag) : Bool := decide (PySem.W.nsIn K mainGlobals "want_fineness" = some (some (.ref (ga K "want_fineness"))))
def q160 (K : PySem.W.Frag) : Bool := decide (PySem.W.nsIn K mainGlobals "is_count" = some (some (.ref (ga K "is_count"))))
def q161 (K : PySem.W.Frag) : Bool := decide (PySem.W.findIn K (.ref (ga K "Gauge")) "bound_at" = some (some (.ref (ma K (ga K "Gauge") "bound_at"))))
def q162 (K : PySem.W.Frag) : Bool := PySem.W.isFn K (.ref (ma K (ga K "Gauge") "bound_at"))
def q163 (K : PySem.W.Frag) : Bool := decide (PySem.W.findIn K (.ref (ga K "Gauge")) "bound_found" = some (some (.ref (ma K (ga K "Gauge") "bound_found"))))
def q164 (K : PySem.W.Frag) : Bool := PySem.W.isFn K (.ref (ma K (ga K "Gauge") "bound_found"))
def q165 (K : PySem.W.Frag) : Bool := decide (PySem.W.findIn K (.ref (ga K "Map")) "sides" = some (some (.ref (ma K (ga K "Map") "sides"))))
def q166 (K : PySem.W.Frag) : Bool := PySem.W.isFn K (.ref (ma K (ga K "Map") "sides"))
def q167 (K : PySem.W.Frag) : Bool := decide (PySem.W.findIn K (.ref (ga K "Plan")) "counts" = some (some (.ref (ma K (ga K "Plan") "counts"))))
def q168 (K : PySem.W.Frag) : Bool := PySem.W.isFn K (.ref (ma K (ga K "Plan") "counts"))
def q169 (K : PySem.W.Frag) : Bool := decide (PySem.W.findIn K (.ref (ga K "Ratio")) "over" = some (some (.ref (ma K (ga K "Ratio") "over"))))
def q170 (K : PySem.W.Frag) : Bool := PySem.W.isFn K (.ref (ma K (ga K "Ratio") "over"))
def q171 (K : PySem.W.Frag) : Bool := decide (PySem.W.findIn K (.ref (ga K "Ratio")) "__mul__" = some (some (.ref (ma K (ga K "Ratio") "__mul__"))))
def q172 (K : PySem.W.Frag) : Bool := PySem.W.isFn K (.ref (ma K (ga K "Ratio") "__mul__"))
def q173 (K : PySem.W.Frag) : Bool := PySem.W.selfFirst K (ga K "Ratio")
def q174 (K : PySem.W.Frag) : Bool := PySem.W.noSeq K (ga K "Ratio")
def q175 (K : PySem.W.Frag) : Bool := PySem.W.fnIn K (ma K (ga K "Ratio") "__mul__")
def d_law : DM := ⟨fun K => (ga K "law"), "law", "law", top 83, []⟩
def d_pot : DM := ⟨fun K => (ga K "_law_pot"), "_law_pot", "_law_pot", top 66, []⟩
def d_right : DM := ⟨fun K => (ga K "_law_right"), "_law_right", "_law_right", top 82, []⟩
def d_draw : DM := ⟨fun K => (ga K "_law_draw"), "_law_draw", "_law_draw", top 67, []⟩
def d_lmodel : DM := ⟨fun K => (ga K "_law_model"), "_law_model", "_law_model", top 74, []⟩
def d_pick : DM := ⟨fun K => (ga K "_law_pick"), "_law_pick", "_law_pick", top 68, []⟩
def d_rounds : DM := ⟨fun K => (ga K "_law_rounds"), "_law_rounds", "_law_rounds", top 69, []⟩
def d_llength : DM := ⟨fun K => (ga K "_law_length"), "_law_length", "_law_length", top 71, []⟩
def d_lreach : DM := ⟨fun K => (ga K "_law_reach"), "_law_reach", "_law_reach", top 72, []⟩
def d_lgauge : DM := ⟨fun K => (ga K "_law_gauge"), "_law_gauge", "_law_gauge", top 76, []⟩
def d_passed : DM := ⟨fun K => (ga K "_law_passed"), "_law_passed", "_law_passed", top 73, []⟩
def d_rinit : DM := ⟨fun K => (ma K (ga K "Ratio") "__init__"), "__init__", "Ratio.__init__", inClass (top 31) 0, [.int 1]⟩
def d_isint : DM := ⟨fun K => (ga K "is_integer"), "is_integer", "is_integer", top 22, []⟩
def d_compart : DM := ⟨fun K => (ga K "common_part"), "common_part", "common_part", top 30, []⟩
def d_larea : DM := ⟨fun K => (ga K "_law_area"), "_law_area", "_law_area", top 75, []⟩
def d_lplan : DM := ⟨fun K => (ga K "_law_plan"), "_law_plan", "_law_plan", top 70, []⟩
def d_init : DM := ⟨fun K => (ma K (ga K "Plan") "__init__"), "__init__", "Plan.__init__", inClass (top 47) 3, []⟩
def d_wantrounds : DM := ⟨fun K => (ga K "want_rounds"), "want_rounds", "want_rounds", top 46, []⟩
def d_isround : DM := ⟨fun K => (ga K "is_round"), "is_round", "is_round", top 44, []⟩
def d_islist : DM := ⟨fun K => (ga K "is_list"), "is_list", "is_list", top 24, []⟩
def d_iscut : DM := ⟨fun K => (ga K "is_cut"), "is_cut", "is_cut", top 43, []⟩
def d_isaxis : DM := ⟨fun K => (ga K "is_axis"), "is_axis", "is_axis", top 39, []⟩
def d_areparts : DM := ⟨fun K => (ga K "are_parts"), "are_parts", "are_parts", top 42, []⟩
def d_along1 : DM := ⟨fun K => (ga K "parts_along"), "parts_along", "parts_along", top 45, []⟩
def d_prod : DM := ⟨fun K => (ma K (ga K "Plan") "product_of"), "product_of", "Plan.product_of", inClass (top 47) 6, []⟩
def d_minit : DM := ⟨fun K => (ma K (ga K "Map") "__init__"), "__init__", "Map.__init__", inClass (top 54) 0, []⟩
def d_wantplan : DM := ⟨fun K => (ga K "want_plan"), "want_plan", "want_plan", top 48, []⟩
def d_wantlen : DM := ⟨fun K => (ga K "want_length"), "want_length", "want_length", top 52, []⟩
def d_islen : DM := ⟨fun K => (ga K "is_length"), "is_length", "is_length", top 51, []⟩
def d_isnum : DM := ⟨fun K => (ga K "is_number"), "is_number", "is_number", top 25, []⟩
def d_asratio : DM := ⟨fun K => (ga K "as_ratio"), "as_ratio", "as_ratio", top 27, []⟩
def d_rsign : DM := ⟨fun K => (recAd K (ma K (ga K "Ratio") "sign") "property"), "sign", "Ratio.sign", inClass (top 31) 4, []⟩
def d_areaxes : DM := ⟨fun K => (ga K "are_axes"), "are_axes", "are_axes", top 53, []⟩
def d_ginit : DM := ⟨fun K => (ma K (ga K "Gauge") "__init__"), "__init__", "Gauge.__init__", inClass (top 64) 0, []⟩
def d_wantmap : DM := ⟨fun K => (ga K "want_map"), "want_map", "want_map", top 55, []⟩
def d_isreach : DM := ⟨fun K => (ga K "is_reach"), "is_reach", "is_reach", top 63, []⟩
def d_rbelow : DM := ⟨fun K => (ma K (ga K "Ratio") "is_below"), "is_below", "Ratio.is_below", inClass (top 31) 6, []⟩
def d_wantnum : DM := ⟨fun K => (ga K "want_number"), "want_number", "want_number", top 26, []⟩
def d_wantkind : DM := ⟨fun K => (ga K "want_kind"), "want_kind", "want_kind", top 59, []⟩
def d_lcounts : DM := ⟨fun K => (ga K "_law_counts"), "_law_counts", "_law_counts", top 77, []⟩
def d_ltop : DM := ⟨fun K => (ga K "_law_top"), "_law_top", "_law_top", top 80, []⟩
def d_ltopat : DM := ⟨fun K => (ga K "_law_top_at"), "_law_top_at", "_law_top_at", top 79, []⟩
def d_lless : DM := ⟨fun K => (ga K "_law_is_less"), "_law_is_less", "_law_is_less", top 78, []⟩
def d_ltold : DM := ⟨fun K => (ga K "_law_is_told"), "_law_is_told", "_law_is_told", top 81, []⟩
def d_req : DM := ⟨fun K => (ma K (ga K "Ratio") "__eq__"), "__eq__", "Ratio.__eq__", inClass (top 31) 15, []⟩
def d_ggreat : DM := ⟨fun K => (ma K (ga K "Gauge") "greatest"), "greatest", "Gauge.greatest", inClass (top 64) 4, []⟩
def d_wantfine : DM := ⟨fun K => (ga K "want_fineness"), "want_fineness", "want_fineness", top 41, []⟩
def d_count : DM := ⟨fun K => (ga K "is_count"), "is_count", "is_count", top 23, []⟩
def d_gat : DM := ⟨fun K => (ma K (ga K "Gauge") "bound_at"), "bound_at", "Gauge.bound_at", inClass (top 64) 6, []⟩
def d_gfound : DM := ⟨fun K => (ma K (ga K "Gauge") "bound_found"), "bound_found", "Gauge.bound_found", inClass (top 64) 7, []⟩
def d_msides : DM := ⟨fun K => (ma K (ga K "Map") "sides"), "sides", "Map.sides", inClass (top 54) 7, []⟩
def d_pcounts : DM := ⟨fun K => (ma K (ga K "Plan") "counts"), "counts", "Plan.counts", inClass (top 47) 14, []⟩
def d_rover : DM := ⟨fun K => (ma K (ga K "Ratio") "over"), "over", "Ratio.over", inClass (top 31) 5, []⟩
def d_rmul : DM := ⟨fun K => (ma K (ga K "Ratio") "__mul__"), "__mul__", "Ratio.__mul__", inClass (top 31) 12, []⟩
def fcs0 : List (PySem.W.Frag → Bool) := [q0, q1, q2, q3, q4, q5, q6, q7, q8, q9, q10, q11, q12, q13, q14, q15, q16, q17, q18, q19, q20, q21, q22, q23, q24, q25, q26, q27, q28, q29]
def fcs1 : List (PySem.W.Frag → Bool) := [q30, q31, q32, q33, q34, q35, q36, q37, q38, q39, q40, q41, q42, q43, q44, q45, q46, q47, q48, q49, q50, q51, q52, q53, q54, q55, q56, q57, q58, q59]
def fcs2 : List (PySem.W.Frag → Bool) := [q60, q61, q62, q63, q64, q65, q66, q67, q68, q69, q70, q71, q72, q73, q74, q75, q76, q77, q78, q79, q80, q81, q82, q83, q84, q85, q86, q87, q88, q89]
def fcs3 : List (PySem.W.Frag → Bool) := [q90, q91, q92, q93, q94, q95, q96, q97, q98, q99, q100, q101, q102, q103, q104, q105, q106, q107, q108, q109, q110, q111, q112, q113, q114, q115, q116, q117, q118, q119]
def fcs4 : List (PySem.W.Frag → Bool) := [q120, q121, q122, q123, q124, q125, q126, q127, q128, q129, q130, q131, q132, q133, q134, q135, q136, q137, q138, q139, q140, q141, q142, q143, q144, q145, q146, q147, q148, q149]
def fcs5 : List (PySem.W.Frag → Bool) := [q150, q151, q152, q153, q154, q155, q156, q157, q158, q159, q160, q161, q162, q163, q164, q165, q166, q167, q168, q169, q170, q171, q172, q173, q174, q175]
def fcs : List (PySem.W.Frag → Bool) := fcs0 ++ (fcs1 ++ (fcs2 ++ (fcs3 ++ (fcs4 ++ (fcs5)))))
def dfs0 : List (DM) := [d_law, d_pot, d_right, d_draw, d_lmodel, d_pick, d_rounds, d_llength, d_lreach, d_lgauge, d_passed, d_rinit, d_isint, d_compart, d_larea, d_lplan, d_init, d_wantrounds, d_isround, d_islist, d_iscut, d_isaxis, d_areparts, d_along1, d_prod, d_minit, d_wantplan, d_wantlen, d_islen, d_isnum]
def dfs1 : List (DM) := [d_asratio, d_rsign, d_areaxes, d_ginit, d_wantmap, d_isreach, d_rbelow, d_wantnum, d_wantkind, d_lcounts, d_ltop, d_ltopat, d_lless, d_ltold, d_req, d_ggreat, d_wantfine, d_count, d_gat, d_gfound, d_msides, d_pcounts, d_rover, d_rmul]
def dfs : List (DM) := dfs0 ++ (dfs1)
def nms0 : List Str := ["_wall", "CellError", "InvalidNumber", "InvalidRounds", "InvalidPhase", "InvalidLength", "InvalidClosed", "InvalidAxis", "InvalidKind", "InvalidReach", "InvalidDistance", "InvalidMap", "InvalidPlan", "InvalidText", "StateError", "DividedByZero", "NotBalanced", "LimitError", "TooMany", "DIGITS"]
def nms1 : List Str := ["is_integer", "is_count", "is_list", "is_number", "want_number", "as_ratio", "is_whole_text", "ratio_in", "common_part", "Ratio", "EAST", "NORTH", "AXES", "FEWEST_PARTS", "MOST_PARTS", "MOST_FINE", "is_axis", "want_axis", "want_fineness", "are_parts"]
def nms2 : List Str := ["is_cut", "is_round", "parts_along", "want_rounds", "Plan", "want_plan", "want_phase", "is_length", "want_length", "are_axes", "Map", "want_map", "BOX", "KINDS", "want_kind", "want_distance", "MOST_FINENESS", "is_reach", "Gauge", "_law_pot"]
def nms3 : List Str := ["_law_draw", "_law_pick", "_law_rounds", "_law_plan", "_law_length", "_law_reach", "_law_passed", "_law_model", "_law_area", "_law_gauge", "_law_counts", "_law_is_less", "_law_top_at", "_law_top", "_law_is_told", "_law_right"]
def nms : List Str := nms0 ++ nms1 ++ nms2 ++ nms3
abbrev Ro : PySem.W.OpenRow := PySem.W.OpenLaw.row PySem.Challenge.rw_movecells_k51_whole_greatest_distances
abbrev hkM : PySem.W.Hook := hookM 0 fcs dfs
theorem topRuns (w : World) : HandSHeadRun.RunEq Ro (PySem.W.view Ro.prog [83]) hkM (seeM 0 fcs dfs) 60000 nms w := by
  intro os
  kernel_rfl
end T0
set_option Elab.async false
set_option maxRecDepth 100000
set_option maxHeartbeats 4000000
namespace Mv
open PySem PySem.Spec PyProof.Rows L2
/-! ### len(x) by an own __len__ -/
def rLenO (C : Addr) (sp : Sp) : List V → Hp → VK → Prop := fun xs H Q => ∃ a dx fs, xs = [.ref a] ∧ H a = some (.ins C dx fs) ∧ sp [.ref a] H (fun v H' => ∃ n : Int, v = .int n ∧ 0 ≤ n ∧ n < 2 ^ 63 ∧ Q (.int n) H') E0
section
variable {X : Cx} {k : Nat} {C : Addr} {sp : Sp}
theorem call_lenO (c : Op2 X.prog X.w X.K X.mg X.base k C "__len__" sp) (hr : Room (k + 1) X.A) : CallR X (.builtin "len") (rLenO C sp) := by
  obtain ⟨g, fd, ps, F, hb, hs, hf⟩ := c.ex
  intro pins s σ H xs us Q I r h
  obtain ⟨a, dx, fs, rfl, ea, q⟩ := h
  obtain ⟨u, rfl, ru⟩ := vals1 r
  obtain rfl : u = Value.ref a := ru
  obtain ⟨mA, O, _⟩ := ins_get I.hok ea
  obtain ⟨od, J, _⟩ := O.look
  obtain ⟨m, hF⟩ := I.fr
  refine PySem.W.len_K hF I.ok.mod.kin J hs hf ?_
  refine wpAny_mono (run_at (vs := [.ref a]) F hr.in1 I.ok.frames hb I (.cons rfl .nil) q) (fun w s' z => ?_) fun _ _ x => x
  obtain ⟨z', H', I', rz, n, rfl, h0, h1, qz⟩ := z
  obtain ⟨tk, rfl⟩ := rz
  exact ⟨⟨h0, h1⟩, .int n, H', I'.tok _, ⟨_, rfl⟩, qz⟩
theorem call_lenO' {P : Program} {w : World} {K : PySem.W.Frag} {mg : Str → Option Value} {base : Heap} {j : Nat} (c : Op2 P w K mg base k C "__len__" sp) (hr : Room j X.A) (hk : k + 1 ≤ j) (e : Over X P w K mg base := by exact ⟨rfl, rfl, rfl, rfl, rfl⟩) : CallR X (.builtin "len") (rLenO C sp) := by
  obtain ⟨rfl, rfl, rfl, rfl, rfl⟩ := e
  exact call_lenO c (hr.mono hk)
end
/-! ### lists and tuples alike -/
/-- true: a list, false: a tuple -/
def SqK (b : Bool) (K : PySem.W.Frag) (H : Hp) (a : Addr) (xs : List V) : Prop := if b then SqL K H a xs else SqT K H a xs
def ItK (b : Bool) (K : PySem.W.Frag) (a : Addr) : It := if b then Itl K a else Itt K a
theorem walk_K {b : Bool} {K : PySem.W.Frag} {a : Addr} {xs : List V} : Walk (ItK b K a) xs.length (fun H => SqK b K H a xs) (YAt xs) := by
  cases b
  · exact walk_tup
  · exact walk_list
def iSeq (K : PySem.W.Frag) (te : TE) : TI := fun σ H R => te σ H fun x H1 => ∃ b a xs, x = .ref a ∧ SqK b K H1 a xs ∧ R (ItK b K a) H1
theorem pi_seq {X : Cx} {tg e : Expr} {te : TE} (h : PE X e te) : PI X tg e (iSeq X.K te) := by
  refine ⟨fun pins s σ H R I hh => ?_⟩
  -- both ways, by cases behind the value
  refine thn (h.run pins s σ H _ I hh) fun v s1 ⟨x, H1, I1, r1, b, a, xs, e1, hq, q⟩ => ?_
  subst e1
  cases r1
  cases b with
  | true =>
    obtain ⟨its, rv, p, hz⟩ := I1.list hq
    refine wpAny_pyIter_list p.isList ?_
    refine ⟨s1.heap.objs.size, [s1.heap.objs.size], _, _, H1, rfl, I1.kept (t' := s1.toks) fun b o e => Heap.get?_push_of_some _ e, turn_list a _, ⟨_, Heap.get?_push_size _ rfl, rfl, rfl⟩, fun b hb => ?_, q⟩
    have e : b = s1.heap.objs.size := by simpa using hb
    subst e
    exact I1.fpOk (Nat.le_refl _) (I1.hok.fresh (Nat.le_refl _))
  | false =>
    obtain ⟨its, rv, p, hz⟩ := I1.tuple hq
    refine wpAny_pyIter_tuple (show s1.heap.IsTuple a its.toArray from p) ?_
    refine ⟨s1.heap.objs.size, [s1.heap.objs.size], _, _, H1, rfl, I1.kept (t' := s1.toks) fun b o e => Heap.get?_push_of_some _ e, turn_tuple a _, ⟨_, Heap.get?_push_size _ rfl, rfl, rfl⟩, fun b hb => ?_, q⟩
    have e : b = s1.heap.objs.size := by simpa using hb
    subst e
    exact I1.fpOk (Nat.le_refl _) (I1.hok.fresh (Nat.le_refl _))
/-! ### enumerate of a tuple -/
def IteT (K : PySem.W.Frag) (a : Addr) : It :=
  ⟨fun i H => ∃ (xs : List V) (x : V), SqT K H a xs ∧ xs[i]? = some x, fun i H v H' => ∃ T x, v = .ref T ∧ H T = none ∧ H' = upd H T (.tup [.int (i : Nat), x]) ∧ ∀ xs, SqT K H a xs → xs[i]? = some x, fun i H => ∃ xs : List V, SqT K H a xs ∧ xs.length ≤ i⟩
theorem call_enumB {prog : Program} {w : World} {A : Around} {E : Value → Shared → Prop} {s : Shared} {v : Value} {o : Obj} {Hx : Heap → Prop} {Q : Value → Shared → Prop} (B : Begins v o Hx) (h1 : Hx s.heap)
    (h : ∀ h', IsEnum h' (s.heap.objs.size + 1) s.heap.objs.size 0 .none → h'.get? s.heap.objs.size = some o → h'.objs.size = s.heap.objs.size + 2 →
      (∀ b o, s.heap.get? b = some o → h'.get? b = some o) → Q (.ref (s.heap.objs.size + 1)) { s with heap := h' }) :
    wpAny (model prog w) A (call (.type "enumerate") [v]) Q E s := by
  have mt : Meets (Builtin.«enumerate.__new__» ⟨[.type "enumerate", v], []⟩) (fun _ R s => Hx s.heap ∧
      R (.ok (.ret (.ref (s.heap.push o).objs.size))) { s with heap := (s.heap.push o).push { cls := .type "enumerate", data := .fields #[.none, .bool false, .ref s.heap.objs.size, rawInt 0, .none, .none] } }) :=
    .of_wp fun prog w A R s h => by
      obtain ⟨hp, g, d, tk, os⟩ := s; obtain ⟨h1, h⟩ := h
      have hsub := sub_enumerate
      have q1 : ∀ {A' : Around} {E : Value → Shared → Prop} {Q : Value → Shared → Prop}, Q (.ref hp.objs.size) ⟨hp.push o, g, d, tk, os⟩ → wpAny (model prog w) A' (pyIter v) Q E ⟨hp, g, d, tk, os⟩ :=
        fun q => B.iter prog w _ _ ⟨hp, g, d, tk, os⟩ _ h1 q
      wp_walk using q1
      refine wpAny_stack_any fun st => wpAny_pure ?_
      split
      · rename_i c _ _ _ _ _
        cases (c == Value.type "enumerate")
        · wp_walk using q1
          exact ⟨_, rfl, h⟩
        · wp_walk using q1
          exact ⟨_, rfl, h⟩
      · wp_walk using q1
        exact ⟨_, rfl, h⟩
  refine callType_new F.called_enumerate (by decide) (F.typeCall_enumerate_1 _) (F.newCall_enumerate_1 _) (fun obj => F.args_object_init_2 obj _) F.entry_enumerate_new mt ⟨h1, ?_⟩
  have hz : (s.heap.push o).objs.size = s.heap.objs.size + 1 := Heap.size_push ..
  show _ ∧ _
  rw [hz]
  have he : IsEnum ((s.heap.push o).push { cls := .type "enumerate", data := .fields #[.none, .bool false, .ref s.heap.objs.size, rawInt 0, .none, .none] }) (s.heap.objs.size + 1) s.heap.objs.size 0 .none := by
    have := Heap.get?_push_size (s.heap.push o) (o := { cls := .type "enumerate", data := .fields #[.none, .bool false, .ref s.heap.objs.size, rawInt 0, .none, .none] }) rfl
    rw [hz] at this; exact this
  refine ⟨⟨_, he, rfl⟩, h _ he (Heap.get?_push_of_some _ (Heap.get?_push_size _ B.free)) (by rw [Heap.size_push, hz]) fun b o x => Heap.get?_push_of_some _ (Heap.get?_push_of_some _ x)⟩
theorem turn_enumT {P : Program} {w : World} {K : PySem.W.Frag} {elts : List Expr} {kk : Nat} {tpos : Pos} (a e it : Addr) (hai : a ≠ it) (hae : a ≠ e) :
    Turn P w K (.Tuple elts kk tpos) (IteT K a) [e, it] e (fun i h => (∃ old, IsEnum h e it ((i : Nat) : Int) old) ∧ h.IsTupleIter it a i ∧ e ≠ it) where
  mem := by simp
  obj := fun i h st b hb => by
    obtain ⟨⟨old, he⟩, ⟨o, ho, hc, hd⟩, _⟩ := st
    have e' : b = e ∨ b = it := by simpa using hb
    rcases e' with z | z
    · rw [z]; exact ⟨_, he, fun v q => nomatch q⟩
    · rw [z]; exact ⟨o, ho, fun v q => by rw [hd] at q; cases q⟩
  keep := fun i h h' st k => let ⟨⟨old, he⟩, hi, hne⟩ := st; ⟨⟨old, k e (by simp) _ he⟩, hi.at fun o q => k it (by simp) o q, hne⟩
  item := by
    intro X hP hw hK hc i pins s σ H E I hf st hg
    subst hP hw hK
    obtain ⟨⟨old, he⟩, hit, hne⟩ := st
    obtain ⟨xs, x, hq, hx⟩ := hg
    obtain ⟨its, rv, p, hz⟩ := I.tuple hq
    obtain ⟨u, hu, ru⟩ := rv.get hx
    have hel : e < s.heap.objs.size := Heap.lt_size he
    have hil : it < s.heap.objs.size := by obtain ⟨_, q, _⟩ := hit; exact Heap.lt_size q
    have pt : s.heap.IsTuple a its.toArray := p
    have hu' : its.toArray[i]? = some u := by simpa using hu
    have hlt : i < its.toArray.size := by
      rcases Nat.lt_or_ge i its.toArray.size with z | z
      · exact z
      · rw [Array.getElem?_eq_none z] at hu'; cases hu'
    refine wpAny_pyNext_enum_itemD (Draws.tuple (A := X.A.in1) (I.ok.hd hc) it a hai its.toArray) he ⟨hit, pt⟩ hlt hne (by simp; exact ⟨hne, fun z => hae z.symm⟩) fun x' h' tk hPx ho hst' hT hsz hk => ?_
    obtain rfl : x' = u := by
      have z : its.toArray[i]? = some x' := hPx
      rw [hu'] at z
      exact (Option.some.inj z).symm
    obtain ⟨hit', pt'⟩ := hst'
    refine ⟨_, rfl, wpAny_letOwnedTupleGo_enum (s := { s with heap := h', toks := tk + 1 }) ho fun h'' he' sb => ?_⟩
    have hT2 : h''.get? s.heap.objs.size = some { cls := .type "tuple", data := .seq #[.int i tk, x'] } := (sb.2 _ (Nat.ne_of_gt hel)).trans hT
    have new : ObjOk X.prog X.w (upd H s.heap.objs.size (.tup [.int (i : Nat), x])) h'' s.heap.objs.size (.tup [.int (i : Nat), x]) :=
      ⟨by show 2 ≤ sizeLine; decide, [.int i tk, x'], .cons ⟨_, rfl⟩ (.cons ru .nil), ⟨_, hT2, rfl, _, rfl⟩⟩
    have I1 : Inv X pins σ (upd H s.heap.objs.size (.tup [.int (i : Nat), x])) { s with heap := h'', toks := tk + 1 } :=
      I.turnedNew (ch := [e, it]) (fun b ob hb q => (sb.2 b (fun z => hb (by simp [z]))).trans (hk b ob (fun z => hb (by simp [z])) (fun z => hb (by simp [z])) q)) hf (Nat.le_refl _) new
    refine ⟨.ref s.heap.objs.size, _, I1, rfl, ⟨_, x, rfl, I.hok.fresh (Nat.le_refl _), rfl, fun ys hy => by rw [I.tuple_inj hy hq]; exact hx⟩, ⟨⟨x', ?_⟩, hit'.at fun o q => (sb.2 it (Ne.symm hne)).trans q, hne⟩, fun b hb => ?_⟩
    · have e1 : ((i + 1 : Nat) : Int) = (i : Int) + 1 := by omega
      rw [e1]; exact he'
    · have hb' : b < s.heap.objs.size := by
        have e' : b = e ∨ b = it := by simpa using hb
        rcases e' with z | z
        · rw [z]; exact hel
        · rw [z]; exact hil
      rw [upd_ne (Nat.ne_of_lt hb')]
      exact (hf b hb).1
  done := by
    intro X hP hw hK hc i pins s σ H E I hf st hg
    subst hP hw hK
    obtain ⟨⟨old, he⟩, hit, hne⟩ := st
    obtain ⟨xs, hq, hx⟩ := hg
    obtain ⟨its, rv, p, hz⟩ := I.tuple hq
    obtain ⟨f0, f1, f2, f3, f4, f5⟩ := hf it (by simp)
    have hl := rv.length
    have pt : s.heap.IsTuple a its.toArray := p
    have hT : s.TypeIs (.ref e) "enumerate" := ⟨_, he, rfl⟩
    unfold pyNext
    refine wpAny_bind (wpAny_attempt (wpAny_callSpecial?_slot (name := Str.ofString "__next__") hT F.slot_enumerate_next
      (wpAny_call_entry F.slot_enumerate_next hT F.entry_enumerate_next ?_ (F.args_enumerate_next_1 _))))
    show wpAny _ _ (field (.ref e) 2 >>= _) _ _ _
    refine wpAny_bind (wpAny_field he rfl (x := .ref it) rfl ?_)
    refine wpAny_bind (wpAny_nextOf_tuple_end (I.ok.hd hc) hit pt (by simp; omega) fun h' x eb hx' => ?_)
    obtain ⟨o, ho, hc'⟩ := hx'
    refine wpAny_bind (wpAny_isInstance (T := "StopIteration") (b := true) ⟨o, ho, hc'⟩ isSubtype_stop ?_)
    exact wpAny_pure ⟨rfl, I.turned (t' := s.toks) (fun b o hb q => eb b o hb q) f0 f1 f3 f4 f5⟩
  self := fun A i s Q E st h => let ⟨⟨_, he⟩, _⟩ := st; wpAny_pyIter_enum he h
def IteK (b : Bool) (K : PySem.W.Frag) (a : Addr) : It := if b then Ite K a else IteT K a
theorem walk_enumT {K : PySem.W.Frag} {a : Addr} {xs : List V} : Walk (IteT K a) xs.length (fun H => SqT K H a xs) (YPair (fun i => some (.int (i : Nat))) (fun i => xs[i]?)) := by
  refine ⟨fun i _ hi q => ⟨xs, xs[i], q, by simp [hi]⟩, fun _ q => ⟨xs, q, Nat.le_refl _⟩, fun i H v H' _ q y => ?_⟩
  obtain ⟨T, x, h1, h2, h3, h4⟩ := y
  exact ⟨T, .int (i : Nat), x, h1, h2, h3, rfl, h4 xs q⟩
theorem walk_enumK {b : Bool} {K : PySem.W.Frag} {a : Addr} {xs : List V} : Walk (IteK b K a) xs.length (fun H => SqK b K H a xs) (YPair (fun i => some (.int (i : Nat))) (fun i => xs[i]?)) := by
  cases b
  · exact walk_enumT
  · exact walk_enum
def iEnumA (K : PySem.W.Frag) (ta : TA) : TI := fun σ H R => ta σ H fun vs H1 => ∃ b a xs, vs = [.ref a] ∧ SqK b K H1 a xs ∧ R (IteK b K a) H1
theorem pi_enumA {X : Cx} {e : Expr} {ta : TA} {p pos tpos : Pos} {elts : List Expr} {kk : Nat} (hg : Gl X "enumerate") (hm : X.mg "enumerate" = none) (ha : PA X [e] ta) (hs : starEach [e] X.env = [(false, eval e X.env)] := by rfl) :
    PI X (.Tuple elts kk tpos) (.Call (.Name "enumerate" p) [e] [] pos) (iEnumA X.K ta) := by
  refine ⟨fun pins s σ H R I h => ?_⟩
  refine Call_ (ld_blt I hg hm boot_enumerate (PyProof.Rows.callWith_type1 (thn (ha.run pos pins s σ H _ I h) fun us s1 ⟨vs, H1, I1, r1, q1⟩ => ?_) hs rfl))
  obtain ⟨b, a, xs, ex, hq, q⟩ := q1
  subst ex
  have fresh2 : ∀ b, b ∈ [s1.heap.objs.size + 1, s1.heap.objs.size] → FpOk X pins H1 b := fun b hb => by
    have e' : b = s1.heap.objs.size + 1 ∨ b = s1.heap.objs.size := by simpa using hb
    have hle : s1.heap.objs.size ≤ b := by
      rcases e' with z | z
      · rw [z]; exact Nat.le_add_right _ _
      · rw [z]; exact Nat.le_refl _
    exact I1.fpOk hle (I1.hok.fresh hle)
  cases r1 with
  | cons r rr =>
    cases rr
    cases r
    cases b with
    | true =>
      obtain ⟨its, rv, p', hz⟩ := I1.list hq
      refine call_enumerate_list p'.isList fun h' he hit hsz hk => wpAny_pyIter_enum he ?_
      have I2 : Inv X pins σ H1 { s1 with heap := h' } := I1.kept (t' := s1.toks) hk
      exact ⟨s1.heap.objs.size + 1, [s1.heap.objs.size + 1, s1.heap.objs.size], _, _, H1, rfl, I2, turn_enum a (s1.heap.objs.size + 1) s1.heap.objs.size, ⟨⟨.none, he⟩, hit, Nat.succ_ne_self _⟩, fresh2, q⟩
    | false =>
      obtain ⟨its, rv, p', hz⟩ := I1.tuple hq
      have pt : s1.heap.IsTuple a its.toArray := p'
      have hal : a < s1.heap.objs.size := by obtain ⟨_, q, _⟩ := id pt; exact Heap.lt_size q
      refine call_enumB (begins_tuple a its.toArray) pt fun h' he hit hsz hk => wpAny_pyIter_enum he ?_
      have I2 : Inv X pins σ H1 { s1 with heap := h' } := I1.kept (t' := s1.toks) hk
      exact ⟨s1.heap.objs.size + 1, [s1.heap.objs.size + 1, s1.heap.objs.size], _, _, H1, rfl, I2, turn_enumT a (s1.heap.objs.size + 1) s1.heap.objs.size (Nat.ne_of_lt hal) (Nat.ne_of_lt (Nat.lt_succ_of_lt hal)), ⟨⟨.none, he⟩, ⟨_, hit, rfl, rfl⟩, Nat.succ_ne_self _⟩, fresh2, q⟩
/-- zip of tuples -/
theorem walk_zipT {K : PySem.W.Frag} {a b : Addr} {xs ys : List V} {n : Nat} (hn : n = min xs.length ys.length) : Walk (RZ.ItzT K a b) n (fun H => SqT K H a xs ∧ SqT K H b ys) (YPair (fun i => xs[i]?) (fun i => ys[i]?)) := by
  subst hn
  refine ⟨fun i _ hi q => ?_, fun _ q => ⟨xs, ys, q.1, q.2, by omega⟩, fun i H v H' _ q y => ?_⟩
  · have h1 : i < xs.length := by omega
    have h2 : i < ys.length := by omega
    exact ⟨xs, ys, xs[i], ys[i], q.1, q.2, by simp [h1], by simp [h2]⟩
  · obtain ⟨T, x, z, h1, h2, h3, h4, h5⟩ := y
    exact ⟨T, x, z, h1, h2, h3, h4 xs q.1, h5 ys q.2⟩
end Mv
set_option Elab.async false
set_option maxRecDepth 100000
set_option maxHeartbeats 4000000
namespace L2
open PySem PySem.Spec PyProof.Rows Mv
/-! ### data on the heap -/
theorem Same.rd {H H' : Hp} {a : Addr} {u : HO} (e : Same H H') (h : Rd H a u) : Rd H' a u := by
  rcases h with h | ⟨o, h⟩
  · exact .inl (e a _ h)
  · exact .inr ⟨o, e a _ h⟩
theorem Same.tup {K : PySem.W.Frag} {H H' : Hp} {a : Addr} {xs : List V} (e : Same H H') (h : SqT K H a xs) : SqT K H' a xs := by
  rcases h with h | h
  · exact .inl (Same.rd e h)
  · exact .inr h
theorem Same.sqk {K : PySem.W.Frag} {H H' : Hp} {b : Bool} {a : Addr} {xs : List V} (e : Same H H') (h : SqK b K H a xs) : SqK b K H' a xs := by
  cases b
  · exact Same.tup e h
  · exact e.seq h
section
variable {K : PySem.W.Frag} {H H' : Hp}
mutual
theorem Dp.same (s : Same H H') : ∀ (d : PyData) (v : V), Dp K H v d → Dp K H' v d
  | .none, _, h => by cases h; exact .non
  | .bool b, _, h => by cases h; exact .bl b
  | .int i, _, h => by cases h; exact .int i
  | .str x, _, h => by cases h; exact .str x
  | .list ds, _, h => by
    cases h with
    | lst hs ha => exact .lst (s.seq hs) (DpAll.same s ds _ ha)
  | .tuple ds, _, h => by
    cases h with
    | tup hs ha => exact .tup (Same.tup s hs) (DpAll.same s ds _ ha)
  | .dict _, _, h => by cases h
theorem DpAll.same (s : Same H H') : ∀ (ds : List PyData) (vs : List V), DpAll K H vs ds → DpAll K H' vs ds
  | [], _, h => by cases h; exact .nil
  | d :: ds, _, h => by
    cases h with
    | cons h1 h2 => exact .cons (Dp.same s d _ h1) (DpAll.same s ds _ h2)
end
theorem Dp.up {d : PyData} {v : V} (h : Dp K H v d) (s : Same H H') : Dp K H' v d := Dp.same s d v h
theorem DpAll.up {ds : List PyData} {vs : List V} (h : DpAll K H vs ds) (s : Same H H') : DpAll K H' vs ds := DpAll.same s ds vs h
theorem Dp.lstE {v : V} {ds : List PyData} (h : Dp K H v (.list ds)) : ∃ a xs, v = .ref a ∧ SqL K H a xs ∧ DpAll K H xs ds := by
  cases h with
  | lst hs ha => exact ⟨_, _, rfl, hs, ha⟩
theorem Dp.tupE {v : V} {ds : List PyData} (h : Dp K H v (.tuple ds)) : ∃ a xs, v = .ref a ∧ SqT K H a xs ∧ DpAll K H xs ds := by
  cases h with
  | tup hs ha => exact ⟨_, _, rfl, hs, ha⟩
theorem Dp.intE {v : V} {i : Int} (h : Dp K H v (.int i)) : v = .int i := by cases h; rfl
theorem Dp.strE {v : V} {x : Str} (h : Dp K H v (.str x)) : v = .str x := by cases h; rfl
theorem Dp.blE {v : V} {x : Bool} (h : Dp K H v (.bool x)) : v = .bl x := by cases h; rfl
/-- a list (true) or a tuple -/
def dSeq (b : Bool) (ds : List PyData) : PyData := if b then .list ds else .tuple ds
theorem Dp.seqE {b : Bool} {v : V} {ds : List PyData} (h : Dp K H v (dSeq b ds)) : ∃ a xs, v = .ref a ∧ SqK b K H a xs ∧ DpAll K H xs ds := by
  cases b
  · exact Dp.tupE h
  · exact Dp.lstE h
theorem Dp.seq {b : Bool} {a : Addr} {xs : List V} {ds : List PyData} (h : SqK b K H a xs) (ha : DpAll K H xs ds) : Dp K H (.ref a) (dSeq b ds) := by
  cases b
  · exact .tup h ha
  · exact .lst h ha
theorem DpAll.len : ∀ {xs : List V} {ds : List PyData}, DpAll K H xs ds → xs.length = ds.length
  | _, _, .nil => rfl
  | _, _, .cons _ h => by rw [List.length_cons, List.length_cons, DpAll.len h]
theorem DpAll.get : ∀ {xs : List V} {ds : List PyData} {i : Nat} {x : V}, DpAll K H xs ds → xs[i]? = some x → ∃ d, ds[i]? = some d ∧ Dp K H x d
  | _, _, _, _, .nil, e => by simp at e
  | _, _, 0, _, .cons h _, e => by
    obtain rfl := Option.some.inj e
    exact ⟨_, rfl, h⟩
  | _, _, i + 1, _, .cons _ h, e => by
    obtain ⟨d, e2, q⟩ := DpAll.get (i := i) h (by simpa using e)
    exact ⟨d, by simpa using e2, q⟩
theorem DpAll.got : ∀ {xs : List V} {ds : List PyData} {i : Nat} {d : PyData}, DpAll K H xs ds → ds[i]? = some d → ∃ x, xs[i]? = some x ∧ Dp K H x d
  | _, _, _, _, .nil, e => by simp at e
  | _, _, 0, _, .cons h _, e => by
    obtain rfl := Option.some.inj e
    exact ⟨_, rfl, h⟩
  | _, _, i + 1, _, .cons _ h, e => by
    obtain ⟨d, e2, q⟩ := DpAll.got (i := i) h (by simpa using e)
    exact ⟨d, by simpa using e2, q⟩
theorem DpAll.app : ∀ {xs ys : List V} {ds es : List PyData}, DpAll K H xs ds → DpAll K H ys es → DpAll K H (xs ++ ys) (ds ++ es)
  | _, _, _, _, .nil, h => h
  | _, _, _, _, .cons a h, g => .cons a (DpAll.app h g)
theorem DpAll.rev : ∀ {xs : List V} {ds : List PyData}, DpAll K H xs ds → DpAll K H xs.reverse ds.reverse
  | _, _, .nil => .nil
  | _, _, .cons a h => by
    rw [List.reverse_cons, List.reverse_cons]
    exact (DpAll.rev h).app (.cons a .nil)
theorem DpAll.take : ∀ {xs : List V} {ds : List PyData} (n : Nat), DpAll K H xs ds → DpAll K H (xs.take n) (ds.take n)
  | _, _, 0, _ => by simp; exact .nil
  | _, _, _ + 1, .nil => by simp; exact .nil
  | _, _, n + 1, .cons a h => .cons a (DpAll.take n h)
theorem DpAll.drop : ∀ {xs : List V} {ds : List PyData} (n : Nat), DpAll K H xs ds → DpAll K H (xs.drop n) (ds.drop n)
  | _, _, 0, h => h
  | _, _, _ + 1, .nil => by simp; exact .nil
  | _, _, n + 1, .cons _ h => DpAll.drop n h
theorem DpAll.erase : ∀ {xs : List V} {ds : List PyData} (n : Nat), DpAll K H xs ds → DpAll K H (xs.eraseIdx n) (ds.eraseIdx n)
  | _, _, _, .nil => by simp; exact .nil
  | _, _, 0, .cons _ h => h
  | _, _, n + 1, .cons a h => .cons a (DpAll.erase n h)
theorem DpAll.set : ∀ {xs : List V} {ds : List PyData} (n : Nat) {x : V} {d : PyData}, DpAll K H xs ds → Dp K H x d → DpAll K H (xs.set n x) (ds.set n d)
  | _, _, _, _, _, .nil, _ => by simp; exact .nil
  | _, _, 0, _, _, .cons _ h, g => .cons g h
  | _, _, n + 1, _, _, .cons a h, g => .cons a (DpAll.set n h g)
theorem DpAll.ints : ∀ (is : List Int), DpAll K H (is.map V.int) (is.map PyData.int)
  | [] => .nil
  | i :: is => .cons (.int i) (DpAll.ints is)
theorem DpAll.intsE : ∀ {xs : List V} {is : List Int}, DpAll K H xs (is.map PyData.int) → xs = is.map V.int
  | _, [], .nil => rfl
  | _, i :: is, .cons a h => by rw [a.intE, DpAll.intsE h]; rfl
theorem DpAll.bools : ∀ (is : List Bool), DpAll K H (is.map V.bl) (is.map PyData.bool)
  | [] => .nil
  | i :: is => .cons (.bl i) (DpAll.bools is)
theorem DpAll.boolsE : ∀ {xs : List V} {is : List Bool}, DpAll K H xs (is.map PyData.bool) → xs = is.map V.bl
  | _, [], .nil => rfl
  | _, i :: is, .cons a h => by rw [a.blE, DpAll.boolsE h]; rfl
/-! a tuple of integers -/
theorem Dp.tupI {a : Addr} {is : List Int} (h : SqT K H a (is.map V.int)) : Dp K H (.ref a) (.tuple (is.map .int)) := .tup h (DpAll.ints is)
theorem Dp.tupIE {v : V} {is : List Int} (h : Dp K H v (.tuple (is.map .int))) : ∃ a, v = .ref a ∧ SqT K H a (is.map V.int) := by
  obtain ⟨a, xs, e, hs, ha⟩ := h.tupE
  exact ⟨a, e, by rw [← ha.intsE]; exact hs⟩
/-! data without lists: it stands while lists change -/
mutual
def NL : PyData → Bool
  | .none | .bool _ | .int _ | .str _ => true
  | .list _ | .dict _ => false
  | .tuple xs => NLs xs
def NLs : List PyData → Bool
  | [] => true
  | x :: xs => NL x && NLs xs
end
/-- all is kept but the list at p -/
def Bu (p : Addr) (H H' : Hp) : Prop := ∀ b o, b ≠ p → H b = some o → H' b = some o
theorem Bu.of (s : Same H H') (p : Addr) : Bu p H H' := fun b o _ e => s b o e
theorem Bu.refl (p : Addr) (H : Hp) : Bu p H H := fun _ _ _ e => e
theorem Bu.trans {p : Addr} {H H1 H2 : Hp} (a : Bu p H H1) (b : Bu p H1 H2) : Bu p H H2 := fun c o n e => b c o n (a c o n e)
theorem Bu.set {p : Addr} {o : HO} : Bu p H (upd H p o) := fun b u n e => by rw [upd_ne n]; exact e
theorem Bu.new {p q : Addr} {o : HO} (hq : H q = none) : Bu p H (upd H q o) := fun b u _ e => by rw [upd_ne (ne_of_none e hq)]; exact e
theorem Bu.sqt {p : Addr} {ys : List V} (b : Bu p H H') (hp : H p = some (.lst ys)) {a : Addr} {xs : List V} (h : SqT K H a xs) : SqT K H' a xs := by
  rcases h with (h | ⟨o, h⟩) | h
  · exact .inl (.inl (b a _ (fun z => by rw [z, hp] at h; cases h) h))
  · exact .inl (.inr ⟨o, b a _ (fun z => by rw [z, hp] at h; cases h) h⟩)
  · exact .inr h
mutual
theorem Dp.bu' {p : Addr} {ys : List V} (b : Bu p H H') (hp : H p = some (.lst ys)) : ∀ (d : PyData) (v : V), NL d = true → Dp K H v d → Dp K H' v d
  | .none, _, _, h => by cases h; exact .non
  | .bool b, _, _, h => by cases h; exact .bl b
  | .int i, _, _, h => by cases h; exact .int i
  | .str x, _, _, h => by cases h; exact .str x
  | .list ds, _, n, h => by simp [NL] at n
  | .tuple ds, _, n, h => by
    cases h with
    | tup hs ha => exact .tup (b.sqt hp hs) (DpAll.bu' b hp ds _ (by simpa [NL] using n) ha)
  | .dict _, _, _, h => by cases h
theorem DpAll.bu' {p : Addr} {ys : List V} (b : Bu p H H') (hp : H p = some (.lst ys)) : ∀ (ds : List PyData) (vs : List V), NLs ds = true → DpAll K H vs ds → DpAll K H' vs ds
  | [], _, _, h => by cases h; exact .nil
  | d :: ds, _, n, h => by
    cases h with
    | cons h1 h2 =>
      have n' : NL d = true ∧ NLs ds = true := by simpa [NLs] using n
      exact .cons (Dp.bu' b hp d _ n'.1 h1) (DpAll.bu' b hp ds _ n'.2 h2)
end
theorem Dp.bu {p : Addr} {ys : List V} {d : PyData} {v : V} (h : Dp K H v d) (n : NL d = true) (b : Bu p H H') (hp : H p = some (.lst ys)) : Dp K H' v d := Dp.bu' b hp d v n h
theorem DpAll.bu {p : Addr} {ys : List V} {ds : List PyData} {vs : List V} (h : DpAll K H vs ds) (n : NLs ds = true) (b : Bu p H H') (hp : H p = some (.lst ys)) : DpAll K H' vs ds := DpAll.bu' b hp ds vs n h
theorem NLs.of : ∀ {ds : List PyData}, (∀ d ∈ ds, NL d = true) → NLs ds = true
  | [], _ => rfl
  | d :: ds, h => by
    have := NLs.of (ds := ds) fun x hx => h x (List.mem_cons_of_mem _ hx)
    simp [NLs, h d (List.mem_cons_self ..), this]
theorem NLs.mem : ∀ {ds : List PyData}, NLs ds = true → ∀ d ∈ ds, NL d = true
  | [], _, _, h => by cases h
  | d :: ds, n, x, h => by
    have n' : NL d = true ∧ NLs ds = true := by simpa [NLs] using n
    rcases List.mem_cons.mp h with rfl | h
    · exact n'.1
    · exact NLs.mem n'.2 x h
theorem NLs.take {ds : List PyData} (h : NLs ds = true) (n : Nat) : NLs (ds.take n) = true := NLs.of fun d hd => NLs.mem h d (List.mem_of_mem_take hd)
theorem NLs.ints (is : List Int) : NLs (is.map PyData.int) = true := NLs.of fun d hd => by
  obtain ⟨i, _, rfl⟩ := List.mem_map.mp hd
  rfl
theorem NL.ints (is : List Int) : NL (.tuple (is.map PyData.int)) = true := by simp [NL, NLs.ints]
/-- a comprehension whose items are data without lists, told by es; nothing old changes -/
theorem lc_nl {J : It} {n : Nat} {G : Hp → Prop} {Y : Nat → Hp → V → Hp → Prop} (w : Walk J n G Y) {g : TG} {te : TE} {vs : List Nat} {σ : L2.St} {H1 : Hp} {D : Addr} {Qd : Hp → Prop} (es : List PyData) (hn : es.length = n) (hz : n ≤ 100000) (hl : NLs es = true) (hD : H1 D = none)
    (hG : ∀ H, Same H1 H → G H)
    (hs : ∀ (i : Nat) (e : PyData) (x : V) (H H' : Hp) (Q : VK), i < n → es[i]? = some e → Same H1 H → Y i H x H' → (∀ y H4, Same H H4 → Dp K H4 y e → Q y H4) →
      g x (wipe σ vs) H' fun σ2 H2 => wipe σ2 vs = wipe σ vs ∧ te σ2 H2 Q)
    (hd : ∀ H ys, Same H1 H → H D = some (.lst ys) → DpAll K H ys es → Qd H) (hg : ∀ x σ' H' (P Q : L2.St → Hp → Prop), (∀ σ2 H2, P σ2 H2 → Q σ2 H2) → g x σ' H' P → g x σ' H' Q) :
    ∃ W : Nat → Nat → Hp → Prop, (∃ m, W 0 m (upd H1 D (.lst []))) ∧ ∀ i m H, W i m H →
      (J.stop i H ∧ Qd H) ∨ (J.go i H ∧ ∃ Nx : Hp → Prop, (∀ H', Nx H' → ∃ m', m' < m ∧ W (i + 1) m' H') ∧ ∀ x H', J.yld i H x H' → g x (wipe σ vs) H' fun σ2 H2 => wipe σ2 vs = wipe σ vs ∧ tYes σ2 H2 fun b H3 =>
        if b = true then te σ2 H3 fun y H4 => ∃ acc, H4 D = some (.lst acc) ∧ acc.length < sizeLine ∧ Nx (upd H4 D (.lst (acc ++ [y]))) else Nx H3) := by
  refine lc_it w (fun i H => Same H1 H ∧ ∃ ys, H D = some (.lst ys) ∧ DpAll K H ys (es.take i)) ⟨same_new hD, [], upd_same, by simp; exact .nil⟩ (fun i H _ h => hG H h.1) ?_ ?_
  · rintro i x H H' hi ⟨s, ys, ed, ha⟩ hy
    have he : es[i]? = some es[i] := List.getElem?_eq_getElem (by omega)
    refine hg x _ H' _ _ (fun σ2 H2 h => ⟨h.1, h.2⟩) (hs i es[i] x H H' (fun y H4 => ∃ acc, H4 D = some (.lst acc) ∧ acc.length < sizeLine ∧ Same H1 (upd H4 D (.lst (acc ++ [y]))) ∧ ∃ ys, upd H4 D (.lst (acc ++ [y])) D = some (.lst ys) ∧ DpAll K (upd H4 D (.lst (acc ++ [y]))) ys (es.take (i + 1))) hi he s hy fun y H4 s4 dy => ?_)
    have e4 := s4 _ _ ed
    have hlen := ha.len
    refine ⟨ys, e4, ?_, same_over (s.trans s4) hD, ys ++ [y], upd_same, ?_⟩
    · rw [hlen, List.length_take]; unfold sizeLine; omega
    · rw [List.take_add_one, he]
      exact ((ha.up s4).bu (NLs.take hl i) Bu.set e4).app (.cons (dy.bu (NLs.mem hl _ (List.getElem_mem _)) Bu.set e4) .nil)
  · rintro H ⟨s, ys, ed, ha⟩
    refine hd H ys s ed ?_
    rw [← hn, List.take_length] at ha
    exact ha
theorem gName_mono {k : Nat} (x : V) (σ' : L2.St) (H' : Hp) (P Q : L2.St → Hp → Prop) (h : ∀ σ2 H2, P σ2 H2 → Q σ2 H2) (p : gName k x σ' H' P) : gName k x σ' H' Q := h _ _ p
theorem gTup2_mono {n k j : Nat} (x : V) (σ' : L2.St) (H' : Hp) (P Q : L2.St → Hp → Prop) (h : ∀ σ2 H2, P σ2 H2 → Q σ2 H2) (p : gTup K n (gCons (gName k) (gCons (gName j) gNil)) x σ' H' P) : gTup K n (gCons (gName k) (gCons (gName j) gNil)) x σ' H' Q := by
  obtain ⟨a, xs, e, hs, hl, v, r, e1, v2, r2, e2, e3, q⟩ := p
  exact ⟨a, xs, e, hs, hl, v, r, e1, v2, r2, e2, e3, h _ _ q⟩
/-! == and repr of data -/
theorem shaped_of {d : PyData} (h : d.canLay0 = true) (hd : d.depth ≤ 64) : SeqAt.shaped d = true := by
  unfold SeqAt.shaped
  rw [h, decide_eq_true hd]
  rfl
end
end L2
set_option Elab.async false
namespace Pm
/-- a cut: axis (0 east, 1 north), parts -/
abbrev Cut := Nat × Nat
def wid : List Cut → Nat → Nat
  | [], _ => 1
  | (a, p) :: r, ax => (if a = ax then p else 1) * wid r ax
def size : List Cut → Nat
  | [] => 1
  | (_, p) :: r => p * size r
/-- the number along an axis of a sign, the cuts from the last one on -/
def al : List Cut → Nat → Nat → Nat
  | [], _, _ => 0
  | (a, p) :: r, s, ax => if a = ax then s % p + p * al r (s / p) ax else al r (s / p) ax
def CutOk (c : Cut) : Prop := c.1 < 2 ∧ 2 ≤ c.2 ∧ c.2 ≤ 4
def RndOk (r : List Cut) : Prop := 1 ≤ r.length ∧ r.length ≤ 5 ∧ (∀ c ∈ r, CutOk c) ∧ size r ≤ 32
instance (c : Cut) : Decidable (CutOk c) := by unfold CutOk; infer_instance
instance (r : List Cut) : Decidable (RndOk r) := by unfold RndOk; infer_instance
def tot (rs : List (List Cut)) (ax : Nat) : Nat := (rs.map fun r => wid r ax).foldr (· * ·) 1
def RdsOk (rs : List (List Cut)) : Prop := 1 ≤ rs.length ∧ rs.length ≤ 3 ∧ (∀ r ∈ rs, RndOk r) ∧ tot rs 0 = tot rs 1
instance (rs : List (List Cut)) : Decidable (RdsOk rs) := by unfold RdsOk; infer_instance
def rnd (rs : List (List Cut)) (k : Nat) : List Cut := rs.getD (k % rs.length) []
def W (rs : List (List Cut)) (ax k : Nat) : Nat := wid (rnd rs k) ax
def S (rs : List (List Cut)) (k : Nat) : Nat := size (rnd rs k)
def cnt (rs : List (List Cut)) (ax : Nat) : Nat → Nat
  | 0 => 1
  | k + 1 => cnt rs ax k * W rs ax k
def A (rs : List (List Cut)) (ax k g : Nat) : Nat := al (rnd rs k).reverse g ax
def nm (rs : List (List Cut)) (ax : Nat) (f : Nat → Nat) : Nat → Nat
  | 0 => 0
  | k + 1 => nm rs ax f k * W rs ax k + A rs ax k (f k)
/-! one round -/
theorem wid_app (r q : List Cut) (ax : Nat) : wid (r ++ q) ax = wid r ax * wid q ax := by
  induction r with
  | nil => simp [wid]
  | cons c r ih => obtain ⟨a, p⟩ := c; simp only [List.cons_append, wid, ih, Nat.mul_assoc]
theorem size_app (r q : List Cut) : size (r ++ q) = size r * size q := by
  induction r with
  | nil => simp [size]
  | cons c r ih => obtain ⟨a, p⟩ := c; simp only [List.cons_append, size, ih, Nat.mul_assoc]
theorem wid_perm {r q : List Cut} (h : r.Perm q) (ax : Nat) : wid r ax = wid q ax := by
  induction h with
  | nil => rfl
  | cons c _ ih => obtain ⟨a, p⟩ := c; simp only [wid, ih]
  | swap c d l => obtain ⟨a, p⟩ := c; obtain ⟨b, q⟩ := d; simp only [wid]; rw [← Nat.mul_assoc, ← Nat.mul_assoc, Nat.mul_comm (if b = ax then q else 1)]
  | trans _ _ i1 i2 => exact i1.trans i2
theorem size_perm {r q : List Cut} (h : r.Perm q) : size r = size q := by
  induction h with
  | nil => rfl
  | cons c _ ih => obtain ⟨a, p⟩ := c; simp only [size, ih]
  | swap c d l => obtain ⟨a, p⟩ := c; obtain ⟨b, q⟩ := d; simp only [size]; rw [← Nat.mul_assoc, ← Nat.mul_assoc, Nat.mul_comm q]
  | trans _ _ i1 i2 => exact i1.trans i2
theorem wid_rev (r : List Cut) (ax : Nat) : wid r.reverse ax = wid r ax := wid_perm (List.reverse_perm r) ax
theorem size_rev (r : List Cut) : size r.reverse = size r := size_perm (List.reverse_perm r)
theorem wid_pos {r : List Cut} (h : ∀ c ∈ r, CutOk c) (ax : Nat) : 0 < wid r ax := by
  induction r with
  | nil => simp [wid]
  | cons c r ih =>
    obtain ⟨a, p⟩ := c
    have h1 := h (a, p) (List.mem_cons_self ..)
    have h2 := ih fun c hc => h c (List.mem_cons_of_mem _ hc)
    simp only [wid]
    refine Nat.mul_pos ?_ h2
    split
    · exact Nat.lt_of_lt_of_le (by decide) h1.2.1
    · exact Nat.one_pos
theorem size_pos {r : List Cut} (h : ∀ c ∈ r, CutOk c) : 0 < size r := by
  induction r with
  | nil => simp [size]
  | cons c r ih =>
    obtain ⟨a, p⟩ := c
    have h1 := h (a, p) (List.mem_cons_self ..)
    have h2 := ih fun c hc => h c (List.mem_cons_of_mem _ hc)
    exact Nat.mul_pos (Nat.lt_of_lt_of_le (by decide) h1.2.1) h2
theorem size_wid {r : List Cut} (h : ∀ c ∈ r, CutOk c) : size r = wid r 0 * wid r 1 := by
  induction r with
  | nil => rfl
  | cons c r ih =>
    obtain ⟨a, p⟩ := c
    have h1 := h (a, p) (List.mem_cons_self ..)
    have h2 := ih fun c hc => h c (List.mem_cons_of_mem _ hc)
    have ha : a = 0 ∨ a = 1 := by have := h1.1; simp at this; omega
    simp only [size, wid, h2]
    rcases ha with rfl | rfl
    · simp [Nat.mul_assoc]
    · simp only [Nat.one_ne_zero, if_false, if_true, Nat.one_mul]
      rw [Nat.mul_left_comm]
theorem al_lt {r : List Cut} (h : ∀ c ∈ r, CutOk c) (s ax : Nat) : al r s ax < wid r ax := by
  induction r generalizing s with
  | nil => simp [al, wid]
  | cons c r ih =>
    obtain ⟨a, p⟩ := c
    have h1 := h (a, p) (List.mem_cons_self ..)
    have h2 := ih (fun c hc => h c (List.mem_cons_of_mem _ hc)) (s / p)
    have hp : 0 < p := Nat.lt_of_lt_of_le (by decide) h1.2.1
    simp only [al, wid]
    split
    · have hm := Nat.mod_lt s hp
      calc s % p + p * al r (s / p) ax < p + p * al r (s / p) ax := by omega
        _ = p * (al r (s / p) ax + 1) := by rw [Nat.mul_add, Nat.mul_one, Nat.add_comm]
        _ ≤ p * wid r ax := Nat.mul_le_mul_left p h2
    · rw [Nat.one_mul]; exact h2
theorem al_inj {r : List Cut} (h : ∀ c ∈ r, CutOk c) {s t : Nat} (hs : s < size r) (ht : t < size r) (h0 : al r s 0 = al r t 0) (h1 : al r s 1 = al r t 1) : s = t := by
  induction r generalizing s t with
  | nil => simp [size] at hs ht; omega
  | cons c r ih =>
    obtain ⟨a, p⟩ := c
    have hc := h (a, p) (List.mem_cons_self ..)
    have hp : 0 < p := Nat.lt_of_lt_of_le (by decide) hc.2.1
    have ha : a = 0 ∨ a = 1 := by have := hc.1; simp at this; omega
    have hr : ∀ c ∈ r, CutOk c := fun c hc => h c (List.mem_cons_of_mem _ hc)
    have ds : s / p < size r := Nat.div_lt_of_lt_mul (by simpa [size] using hs)
    have dt : t / p < size r := Nat.div_lt_of_lt_mul (by simpa [size] using ht)
    have split2 : ∀ {x y u v : Nat}, x < p → y < p → x + p * u = y + p * v → x = y ∧ u = v := by
      intro x y u v hx hy e
      have e1 : (x + p * u) % p = (y + p * v) % p := by rw [e]
      rw [Nat.add_mul_mod_self_left, Nat.add_mul_mod_self_left, Nat.mod_eq_of_lt hx, Nat.mod_eq_of_lt hy] at e1
      subst e1
      have e2 : p * u = p * v := by omega
      exact ⟨rfl, Nat.eq_of_mul_eq_mul_left hp e2⟩
    have key : s % p = t % p ∧ s / p = t / p := by
      simp only [al] at h0 h1
      rcases ha with rfl | rfl
      · simp only [if_true, Nat.zero_ne_one, if_false] at h0 h1
        obtain ⟨e1, e2⟩ := split2 (Nat.mod_lt s hp) (Nat.mod_lt t hp) h0
        exact ⟨e1, ih hr ds dt e2 h1⟩
      · simp only [if_true, Nat.one_ne_zero, if_false] at h0 h1
        obtain ⟨e1, e2⟩ := split2 (Nat.mod_lt s hp) (Nat.mod_lt t hp) h1
        exact ⟨e1, ih hr ds dt h0 e2⟩
    rw [← Nat.mod_add_div s p, ← Nat.mod_add_div t p, key.1, key.2]
/-! rounds -/
theorem rnd_mem {rs : List (List Cut)} (h : 1 ≤ rs.length) (k : Nat) : rnd rs k ∈ rs := by
  have hk : k % rs.length < rs.length := Nat.mod_lt k h
  unfold rnd
  rw [List.getD_eq_getElem?_getD, List.getElem?_eq_getElem hk]
  exact List.getElem_mem hk
theorem rnd_get {rs : List (List Cut)} (h : 1 ≤ rs.length) (k : Nat) : rs[k % rs.length]? = some (rnd rs k) := by
  have hk : k % rs.length < rs.length := Nat.mod_lt k h
  unfold rnd
  rw [List.getD_eq_getElem?_getD, List.getElem?_eq_getElem hk]
  rfl
theorem RdsOk.rnd {rs : List (List Cut)} (h : RdsOk rs) (k : Nat) : RndOk (rnd rs k) := h.2.2.1 _ (rnd_mem h.1 k)
theorem RdsOk.cut {rs : List (List Cut)} (h : RdsOk rs) (k : Nat) : ∀ c ∈ Pm.rnd rs k, CutOk c := (h.rnd k).2.2.1
theorem RdsOk.W {rs : List (List Cut)} (h : RdsOk rs) (ax k : Nat) : 0 < W rs ax k := wid_pos (h.cut k) ax
theorem RdsOk.S {rs : List (List Cut)} (h : RdsOk rs) (k : Nat) : 0 < S rs k := size_pos (h.cut k)
theorem RdsOk.S32 {rs : List (List Cut)} (h : RdsOk rs) (k : Nat) : Pm.S rs k ≤ 32 := (h.rnd k).2.2.2
theorem RdsOk.SW {rs : List (List Cut)} (h : RdsOk rs) (k : Nat) : Pm.S rs k = Pm.W rs 0 k * Pm.W rs 1 k := size_wid (h.cut k)
theorem RdsOk.W32 {rs : List (List Cut)} (h : RdsOk rs) (k : Nat) : Pm.W rs 0 k ≤ 32 ∧ Pm.W rs 1 k ≤ 32 := by
  have e := h.SW k
  have l := h.S32 k
  have p0 := h.W 0 k
  have p1 := h.W 1 k
  constructor
  · have := Nat.le_mul_of_pos_right (Pm.W rs 0 k) p1; omega
  · have := Nat.le_mul_of_pos_left (Pm.W rs 1 k) p0; omega
theorem RdsOk.A_lt {rs : List (List Cut)} (h : RdsOk rs) (ax k g : Nat) : A rs ax k g < Pm.W rs ax k := by
  have := al_lt (r := (Pm.rnd rs k).reverse) (fun c hc => h.cut k c (List.mem_reverse.mp hc)) g ax
  rw [wid_rev] at this
  exact this
theorem RdsOk.cnt_pos {rs : List (List Cut)} (h : RdsOk rs) (ax k : Nat) : 0 < cnt rs ax k := by
  induction k with
  | zero => exact Nat.one_pos
  | succ k ih => exact Nat.mul_pos ih (h.W ax k)
theorem RdsOk.nm_lt {rs : List (List Cut)} (h : RdsOk rs) (ax : Nat) (f : Nat → Nat) (k : Nat) : nm rs ax f k < cnt rs ax k := by
  induction k with
  | zero => exact Nat.one_pos
  | succ k ih =>
    have a := h.A_lt ax k (f k)
    calc nm rs ax f k * Pm.W rs ax k + A rs ax k (f k) < nm rs ax f k * Pm.W rs ax k + Pm.W rs ax k := by omega
      _ = (nm rs ax f k + 1) * Pm.W rs ax k := by rw [Nat.add_mul, Nat.one_mul]
      _ ≤ cnt rs ax k * Pm.W rs ax k := Nat.mul_le_mul_right _ ih
/-- the number of a beginning -/
theorem RdsOk.begin {rs : List (List Cut)} (h : RdsOk rs) (ax : Nat) (f : Nat → Nat) (m j : Nat) : ∃ R rest, 0 < R ∧ rest < R ∧ cnt rs ax (m + j) = cnt rs ax m * R ∧ nm rs ax f (m + j) = nm rs ax f m * R + rest := by
  induction j with
  | zero => exact ⟨1, 0, Nat.one_pos, Nat.one_pos, by simp, by simp⟩
  | succ j ih =>
    obtain ⟨R, rest, hR, hr, e1, e2⟩ := ih
    have w := h.W ax (m + j)
    have a := h.A_lt ax (m + j) (f (m + j))
    refine ⟨R * Pm.W rs ax (m + j), rest * Pm.W rs ax (m + j) + A rs ax (m + j) (f (m + j)), Nat.mul_pos hR w, ?_, ?_, ?_⟩
    · calc rest * Pm.W rs ax (m + j) + A rs ax (m + j) (f (m + j)) < rest * Pm.W rs ax (m + j) + Pm.W rs ax (m + j) := by omega
        _ = (rest + 1) * Pm.W rs ax (m + j) := by rw [Nat.add_mul, Nat.one_mul]
        _ ≤ R * Pm.W rs ax (m + j) := Nat.mul_le_mul_right _ hr
    · show cnt rs ax (m + j) * Pm.W rs ax (m + j) = _
      rw [e1, Nat.mul_assoc]
    · show nm rs ax f (m + j) * Pm.W rs ax (m + j) + A rs ax (m + j) (f (m + j)) = _
      rw [e2, Nat.add_mul, Nat.mul_assoc, Nat.add_assoc]
theorem RdsOk.div {rs : List (List Cut)} (h : RdsOk rs) (ax : Nat) (f : Nat → Nat) {m n : Nat} (hmn : m ≤ n) : nm rs ax f n / (cnt rs ax n / cnt rs ax m) = nm rs ax f m := by
  obtain ⟨j, rfl⟩ := Nat.le.dest hmn
  obtain ⟨R, rest, hR, hr, e1, e2⟩ := h.begin ax f m j
  rw [e1, Nat.mul_div_cancel_left _ (h.cnt_pos ax m), e2, Nat.mul_comm, Nat.mul_add_div hR, Nat.div_eq_of_lt hr, Nat.add_zero]
theorem RdsOk.inj {rs : List (List Cut)} (h : RdsOk rs) {f g : Nat → Nat} {n : Nat} (hf : ∀ k, k < n → f k < Pm.S rs k) (hg : ∀ k, k < n → g k < Pm.S rs k) (h0 : nm rs 0 f n = nm rs 0 g n) (h1 : nm rs 1 f n = nm rs 1 g n) : ∀ k, k < n → f k = g k := by
  induction n with
  | zero => intro k hk; omega
  | succ n ih =>
    have sp : ∀ ax, nm rs ax f (n + 1) = nm rs ax g (n + 1) → nm rs ax f n = nm rs ax g n ∧ A rs ax n (f n) = A rs ax n (g n) := by
      intro ax e
      have w := h.W ax n
      have a1 := h.A_lt ax n (f n)
      have a2 := h.A_lt ax n (g n)
      have e' : nm rs ax f n * Pm.W rs ax n + A rs ax n (f n) = nm rs ax g n * Pm.W rs ax n + A rs ax n (g n) := e
      have q1 : (nm rs ax f n * Pm.W rs ax n + A rs ax n (f n)) / Pm.W rs ax n = nm rs ax f n := by
        rw [Nat.mul_comm, Nat.mul_add_div w, Nat.div_eq_of_lt a1, Nat.add_zero]
      have q2 : (nm rs ax g n * Pm.W rs ax n + A rs ax n (g n)) / Pm.W rs ax n = nm rs ax g n := by
        rw [Nat.mul_comm, Nat.mul_add_div w, Nat.div_eq_of_lt a2, Nat.add_zero]
      have q : nm rs ax f n = nm rs ax g n := by rw [← q1, ← q2, e']
      rw [q] at e'
      exact ⟨q, by omega⟩
    obtain ⟨n0, a0⟩ := sp 0 h0
    obtain ⟨n1, a1⟩ := sp 1 h1
    have rest := ih (fun k hk => hf k (by omega)) (fun k hk => hg k (by omega)) n0 n1
    intro k hk
    rcases Nat.lt_or_ge k n with hk' | hk'
    · exact rest k hk'
    · have : k = n := by omega
      subst this
      refine al_inj (r := (Pm.rnd rs k).reverse) (fun c hc => h.cut k c (List.mem_reverse.mp hc)) ?_ ?_ a0 a1
      · rw [size_rev]; exact hf k hk
      · rw [size_rev]; exact hg k hk
theorem nm_congr {rs : List (List Cut)} {ax : Nat} {f g : Nat → Nat} {n : Nat} (h : ∀ k, k < n → f k = g k) : nm rs ax f n = nm rs ax g n := by
  induction n with
  | zero => rfl
  | succ n ih => simp only [nm]; rw [ih fun k hk => h k (by omega), h n (by omega)]
/-! all rounds once -/
theorem tot_perm {rs qs : List (List Cut)} (h : rs.Perm qs) (ax : Nat) : tot rs ax = tot qs ax := by
  unfold tot
  induction h with
  | nil => rfl
  | cons c _ ih => simp only [List.map_cons, List.foldr_cons, ih]
  | swap c d l => simp only [List.map_cons, List.foldr_cons]; rw [Nat.mul_left_comm]
  | trans _ _ i1 i2 => exact i1.trans i2
theorem cnt_take {rs : List (List Cut)} (ax : Nat) : ∀ k, k ≤ rs.length → cnt rs ax k = tot (rs.take k) ax := by
  intro k
  induction k with
  | zero => intro _; simp [cnt, tot]
  | succ k ih =>
    intro hk
    have e := ih (by omega)
    have hlt : k < rs.length := by omega
    have er : rnd rs k = rs[k] := by
      unfold rnd
      rw [Nat.mod_eq_of_lt hlt, List.getD_eq_getElem?_getD, List.getElem?_eq_getElem hlt]
      rfl
    have app : ∀ (xs : List (List Cut)) (y : List Cut), tot (xs ++ [y]) ax = tot xs ax * wid y ax := by
      intro xs y
      induction xs with
      | nil => simp [tot]
      | cons x xs ih => simp only [tot, List.cons_append, List.map_cons, List.foldr_cons] at *; rw [ih, Nat.mul_assoc]
    show cnt rs ax k * W rs ax k = _
    rw [e, List.take_succ_eq_append_getElem hlt, app]
    unfold W
    rw [er]
theorem cnt_all (rs : List (List Cut)) (ax : Nat) : cnt rs ax rs.length = tot rs ax := by
  rw [cnt_take ax _ (Nat.le_refl _), List.take_length]
theorem RdsOk.bal {rs : List (List Cut)} (h : RdsOk rs) : cnt rs 0 rs.length = cnt rs 1 rs.length := by
  rw [cnt_all, cnt_all]; exact h.2.2.2
theorem RdsOk.perm {rs qs : List (List Cut)} (h : RdsOk rs) (p : rs.Perm qs) : RdsOk qs :=
  ⟨p.length_eq ▸ h.1, p.length_eq ▸ h.2.1, fun r hr => h.2.2.1 r (p.mem_iff.mpr hr), by rw [← tot_perm p, ← tot_perm p]; exact h.2.2.2⟩
theorem RndOk.perm {r q : List Cut} (h : RndOk r) (p : r.Perm q) : RndOk q :=
  ⟨p.length_eq ▸ h.1, p.length_eq ▸ h.2.1, fun c hc => h.2.2.1 c (p.mem_iff.mpr hc), by rw [← size_perm p]; exact h.2.2.2⟩
end Pm
set_option Elab.async false
set_option maxRecDepth 100000
set_option maxHeartbeats 4000000
namespace Mv
open PySem PySem.Spec PyProof.Rows L2
theorem tyL {K : PySem.W.Frag} {H : Hp} {a : Addr} {xs : List V} (h : SqL K H a xs) : TyX K H (.ref a) (.type "list") := by
  rcases h with (h | ⟨o, h⟩) | ⟨o, its, n, hk, hc, _⟩
  · exact .base (.lst h)
  · exact .base (.frz h)
  · exact .kList hk hc
theorem tyT {K : PySem.W.Frag} {H : Hp} {a : Addr} {xs : List V} (h : SqT K H a xs) : TyX K H (.ref a) (.type "tuple") := by
  rcases h with (h | ⟨o, h⟩) | ⟨o, its, n, hk, hc, _⟩
  · exact .base (.tup h)
  · exact .fTuple h
  · exact .kTuple hk hc
theorem sqK_or {b : Bool} {K : PySem.W.Frag} {H : Hp} {a : Addr} {xs : List V} (h : SqK b K H a xs) : SqL K H a xs ∨ SqT K H a xs := by
  cases b
  · exact .inr h
  · exact .inl h
theorem tyK {b : Bool} {K : PySem.W.Frag} {H : Hp} {a : Addr} {xs : List V} (h : SqK b K H a xs) : TyX K H (.ref a) (.type (if b then "list" else "tuple")) := by
  cases b
  · exact tyT h
  · exact tyL h
/-- the built-ins are still their own -/
structure Blt (mg : Str → Option Value) : Prop where
  len : mg "len" = none
  abs : mg "abs" = none
  max : mg "max" = none
  min : mg "min" = none
  int : mg "int" = none
  bool : mg "bool" = none
  str : mg "str" = none
  repr : mg "repr" = none
  all : mg "all" = none
  any : mg "any" = none
  range : mg "range" = none
  divmod : mg "divmod" = none
  isinstance : mg "isinstance" = none
  list : mg "list" = none
  tuple : mg "tuple" = none
  dict : mg "dict" = none
  enumerate : mg "enumerate" = none
  zip : mg "zip" = none
  sorted : mg "sorted" = none
  sum : mg "sum" = none
  type : mg "type" = none
/-- a class of the text whose instances are plain -/
structure ClsI (K : PySem.W.Frag) (C : Addr) : Prop where
  cl : Cls K C
  ha : PySem.W.findIn K (.ref C) "__class__" = some (some (.builtin "object.__class__"))
  hn : PySem.W.specialIn K (.builtin "object.__class__") "__get__" = some (some (.builtin "getset_descriptor.__get__"))
  htk : PySem.W.takesIn K (.builtin "object.__class__") = some true
  hm : PySem.W.mroIn K C (.type "object") = some true
  me : PySem.W.kitOne K (.ref C) (.ref C) = some true
  ne : PySem.W.findIn K (.ref C) "__ne__" = some (some (.builtin "object.__ne__"))
theorem ClsI.ty {K : PySem.W.Frag} {C : Addr} (R : ClsI K C) {H : Hp} {a dx : Addr} {fs : List (Str × V)} (e : H a = some (.ins C dx fs)) : TyX K H (.ref a) (.ref C) := .base (.ins e R.cl R.ha R.hn R.htk R.hm)
theorem ClsI.nf {K : PySem.W.Frag} {C : Addr} (_ : ClsI K C) : PySem.W.notFirst K C (.ref C) = true := by unfold PySem.W.notFirst; simp
/-- attributes of a class itself -/
structure ClsR (K : PySem.W.Frag) (C : Addr) : Prop where
  ex : ∃ mc, ClX.CRead K C mc
/-- the constant C.f -/
structure CCon (K : PySem.W.Frag) (C : Addr) (f : Str) (v : V) : Prop where
  ex : ∃ mc u, ClX.CRead K C mc ∧ ClX.CVal K C mc f v u
/-- x.f, x the name of the class at C -/
theorem pe_ccon {X : Cx} {C : Addr} {x f : Str} {v : V} {p pos : Pos} (c : CCon X.K C f v) (hg : Gl X x) (hm : X.mg x = some (.ref C)) (hd : (x == ("__debug__" : Str)) = false := by decide)
    (hb : attributeBase (.Name x p) f X.env (eval (.Name x p) X.env) = eval (.Name x p) X.env := by rfl) : PE X (.Attribute (.Name x p) f pos) (tC v) := by
  obtain ⟨mc, u, r, k⟩ := c.ex
  exact ⟨fun pins s σ H Q I h => (ClX.pe_cval (pe_glob (v := .ref C) hg hm rfl hd) hb).run pins s σ H Q I ⟨C, mc, v, u, rfl, r, k, h⟩⟩
end Mv
namespace Mv
open PySem PySem.Spec PyProof.Rows L2
section
variable {X : Cx} {x : Str} {pos : Pos}
theorem pe_globS {z : Str} (h : ∃ t, X.mg x = some (.str z t)) (hg : Gl X x) (hd : (x == ("__debug__" : Str)) = false := by decide) : PE X (.Name x pos) (tC (.str z)) := by
  obtain ⟨t, h⟩ := h
  exact pe_glob hg h ⟨_, rfl⟩ hd
theorem pe_globI {i : Int} (h : ∃ t, X.mg x = some (.int i t)) (hg : Gl X x) (hd : (x == ("__debug__" : Str)) = false := by decide) : PE X (.Name x pos) (tC (.int i)) := by
  obtain ⟨t, h⟩ := h
  exact pe_glob hg h ⟨_, rfl⟩ hd
end
/-- no more arguments -/
theorem tnil {σ : L2.St} {H : Hp} {P : List V → Hp → Prop} (h : P [] H) : tNil σ H P := h
/-- a value that is no integer -/
def NotInt (K : PySem.W.Frag) (H : Hp) (v : V) : Prop := ∃ (t : Value) (b c : Bool), TyX K H v t ∧ PySem.W.kitOne K t (.type "int") = some b ∧ PySem.W.kitOne K t (.type "bool") = some c ∧ (b && !c) = false
/-- what stands in the module of plans -/
structure PlG (K : PySem.W.Frag) (mg : Str → Option Value) (C AX : Addr) : Prop where
  I : ClsI K C
  mgC : mg "Plan" = some (.ref C)
  nR : NoAttr K C "own_rounds"
  nP : NoAttr K C "own_parts"
  nG : NoAttr K C "own_growth"
  east : ∃ t, mg "EAST" = some (.str "east" t)
  north : ∃ t, mg "NORTH" = some (.str "north" t)
  axes : mg "AXES" = some (.ref AX)
  axt : ∀ H : Hp, SqT K H AX [.str "east", .str "north"]
  axk : ∃ o, K.lookup AX = some o ∧ o.cls = .type "tuple" ∧ o.dict = none
  few : ∃ t, mg "FEWEST_PARTS" = some (.int 2 t)
  most : ∃ t, mg "MOST_PARTS" = some (.int 4 t)
  fine : ∃ t, mg "MOST_FINE" = some (.int 1000 t)
  mr : CCon K C "MOST_ROUNDS" (.int 3)
  mc : CCon K C "MOST_CUTS" (.int 5)
  ms : CCon K C "MOST_SIGNS" (.int 32)
/-! the data of plans -/
def axn (a : Nat) : Str := if a = 0 then "east" else "north"
/-- a cut of the program; a cut of a law -/
def pCut (c : Pm.Cut) : PyData := .tuple [.str (axn c.1), .int c.2]
def lCut (c : Pm.Cut) : PyData := .tuple [.int c.1, .int c.2]
theorem axn_eq {a b : Nat} (ha : a < 2) (hb : b < 2) : decide (V.str (axn a) = V.str (axn b)) = decide (a = b) := by
  have h1 : a = 0 ∨ a = 1 := by omega
  have h2 : b = 0 ∨ b = 1 := by omega
  rcases h1 with rfl | rfl <;> rcases h2 with rfl | rfl <;> decide
end Mv
namespace Mv
open PySem PySem.Spec PyProof.Rows L2
section
variable {X : Cx} {K : PySem.W.Frag}
def rListOf (K : PySem.W.Frag) : List V → Hp → VK → Prop := fun xs H Q => ∃ p ys, xs = [.ref p] ∧ (SqL K H p ys ∨ SqT K H p ys) ∧ ∀ l, H l = none → Q (.ref l) (upd H l (.lst ys))
theorem call_list_of' (e : X.K = K := by (conv => lhs; whnf)) : CallR X (.type "list") (rListOf K) := by
  subst e
  exact call_list_of
def rTupOf (K : PySem.W.Frag) : List V → Hp → VK → Prop := fun xs H Q => ∃ p ys, xs = [.ref p] ∧ ((SqL K H p ys ∧ ∀ l, H l = none → Q (.ref l) (upd H l (.tup ys))) ∨ (SqT K H p ys ∧ Q (.ref p) H))
theorem call_tuple_of' (e : X.K = K := by (conv => lhs; whnf)) : CallR X (.type "tuple") (rTupOf K) := by
  subst e
  exact call_tuple_of
def rLenSeq (K : PySem.W.Frag) : List V → Hp → VK → Prop := fun xs H Q => ∃ p ys, xs = [.ref p] ∧ (SqL K H p ys ∨ SqT K H p ys) ∧ Q (.int ys.length) H
theorem call_len_seq' (e : X.K = K := by (conv => lhs; whnf)) : CallR X (.builtin "len") (rLenSeq K) := by
  subst e
  exact call_len_seq
theorem ix_list' (e : X.K = K := by (conv => lhs; whnf)) : IxR X (rIxL K) := by
  subst e
  exact ix_list
theorem ix_tup' (e : X.K = K := by (conv => lhs; whnf)) : IxR X (rIxT K) := by
  subst e
  exact ix_tup
theorem op_eqD' (hu : X.A.units + 64 < cLine) (e : X.K = K := by (conv => lhs; whnf)) : OpR X (compareOp .Eq) (rEqD K) := by
  subst e
  exact op_eqD hu
theorem op_neD' (hu : X.A.units + 64 < cLine) (e : X.K = K := by (conv => lhs; whnf)) : OpR X (compareOp .NotEq) (rNeD K) := by
  subst e
  exact op_neD hu
end
end Mv
namespace Mv
open PySem PySem.Spec PyProof.Rows L2
theorem pg_tup' {X : Cx} {K : PySem.W.Frag} {es : List Expr} {k : Nat} {t : TGs} {pos : Pos} (n : Nat) (h : PGs X es t) (e : X.K = K := by (conv => lhs; whnf)) (hc : X.calm = true := by rfl)
    (hn : (assignEach es X.env).length = n := by rfl) (hst : (assignEach es X.env).findIdx? (·.1) = none := by rfl) : PG X (.Tuple es k pos) (gTup K n t) := by
  subst e
  exact pg_tup hc h hn hst
theorem sl_tupA' {X : Cx} {K : PySem.W.Frag} (e : X.K = K := by (conv => lhs; whnf)) : SlR X (rSlA K) := by
  subst e
  exact sl_tupA
end Mv
namespace Mv
open PySem PySem.Spec PyProof.Rows L2
section
variable {X : Cx} {K : PySem.W.Frag} {tg l : Expr} {tl : TE}
theorem pi_list' (hl : PE X l tl) (e : X.K = K := by (conv => lhs; whnf)) : PI X tg l (iList K tl) := by
  subst e
  exact pi_list hl
theorem pi_tup' (hl : PE X l tl) (e : X.K = K := by (conv => lhs; whnf)) : PI X tg l (iTup K tl) := by
  subst e
  exact pi_tup hl
theorem pi_seq' (hl : PE X l tl) (e : X.K = K := by (conv => lhs; whnf)) : PI X tg l (iSeq K tl) := by
  subst e
  exact pi_seq hl
end
end Mv
set_option Elab.async false
set_option maxRecDepth 100000
set_option maxHeartbeats 4000000
namespace T
open PySem L2 Mv
def top (i : Nat) : Stmt := PySem.Challenge.pw_movecells_k51_whole_greatest_distances.main.body.getD i (.Pass ⟨0, 0, 0, 0⟩)
abbrev s_isint : Stmt := top 22
theorem sc_isint : FnScope ["value"] ["value"] (defScope s_isint) := ⟨rfl, rfl, rfl, by decide +kernel, rfl, by decide +kernel, by decide +kernel⟩
abbrev s_count : Stmt := top 23
theorem sc_count : FnScope ["value"] ["value"] (defScope s_count) := ⟨rfl, rfl, rfl, by decide +kernel, rfl, by decide +kernel, by decide +kernel⟩
abbrev s_islist : Stmt := top 24
theorem sc_islist : FnScope ["value"] ["value"] (defScope s_islist) := ⟨rfl, rfl, rfl, by decide +kernel, rfl, by decide +kernel, by decide +kernel⟩
abbrev s_isaxis : Stmt := top 39
theorem sc_isaxis : FnScope ["value"] ["value"] (defScope s_isaxis) := ⟨rfl, rfl, rfl, by decide +kernel, rfl, by decide +kernel, by decide +kernel⟩
abbrev s_areparts : Stmt := top 42
theorem sc_areparts : FnScope ["value"] ["value"] (defScope s_areparts) := ⟨rfl, rfl, rfl, by decide +kernel, rfl, by decide +kernel, by decide +kernel⟩
abbrev s_iscut : Stmt := top 43
theorem sc_iscut : FnScope ["value"] ["value"] (defScope s_iscut) := ⟨rfl, rfl, rfl, by decide +kernel, rfl, by decide +kernel, by decide +kernel⟩
abbrev s_isround : Stmt := top 44
theorem sc_isround : FnScope ["value", "cut"] ["value"] (defScope s_isround) := ⟨rfl, rfl, rfl, by decide +kernel, rfl, by decide +kernel, by decide +kernel⟩
abbrev s_along1 : Stmt := top 45
theorem sc_along1 : FnScope ["cuts", "axis", "found", "own_axis", "parts"] ["cuts", "axis"] (defScope s_along1) := ⟨rfl, rfl, rfl, by decide +kernel, rfl, by decide +kernel, by decide +kernel⟩
abbrev s_wantrounds : Stmt := top 46
theorem sc_wantrounds : FnScope ["rounds", "position", "cuts"] ["rounds"] (defScope s_wantrounds) := ⟨rfl, rfl, rfl, by decide +kernel, rfl, by decide +kernel, by decide +kernel⟩
section
variable {P : Program} {w : World} {K : PySem.W.Frag} {mg : Str → Option Value} {base : Heap} {C AX : Addr}
/-! is_integer -/
def sp_isint (K : PySem.W.Frag) : Sp := fun vs H Q _ => ∃ (v : V) (t : Value) (b c : Bool), vs = [v] ∧ TyX K H v t ∧ PySem.W.kitOne K t (.type "int") = some b ∧ PySem.W.kitOne K t (.type "bool") = some c ∧ Q (.bl (b && !c)) H
theorem c_isint {K : PySem.W.Frag} {v : V} {t : Value} {b c : Bool} {H : Hp} {Q : VK} {E : XK} (h0 : TyX K H v t) (h1 : PySem.W.kitOne K t (.type "int") = some b) (h2 : PySem.W.kitOne K t (.type "bool") = some c) (q : Q (.bl (b && !c)) H) : sp_isint K [v] H Q E := ⟨_, _, _, _, rfl, h0, h1, h2, q⟩
theorem ok_isint {f : Addr} {fd : FuncData} (F : Df K "is_integer" "is_integer" s_isint [] f fd) (B : Blt mg) : FnOk P w K mg base CX0 1 f fd ["value"] (sp_isint K) := by
  refine dfOk F sc_isint (fun vs H Q E h => ?_) (fun cdv A outer s H vs Q E hr h => ?_)
  · obtain ⟨v, t, b, c, rfl, _⟩ := h
    rfl
  · obtain ⟨v, t, b, c, rfl, ty, h1, h2, q⟩ := h
    refine ⟨_, (pss_one (ps_ret (pe_and (pe_callB call_isi' (by rfl) B.isinstance bt_isinstance (pa_cons (pv 0) (pa_cons (pe_bltn (v := .ty "int") (by rfl) B.int bt_int rfl) pa_nil))) (pe_one (pe_not (pe_callB call_isi' (by rfl) B.isinstance bt_isinstance (pa_cons (pv 0) (pa_cons (pe_bltn (v := .ty "bool") (by rfl) B.bool bt_bool rfl) pa_nil)))))))), ?_⟩
    refine ⟨_, rfl, _, _, t, _, b, rfl, .ty _, ty, h1, b, rfl, ?_⟩
    cases b with
    | false => exact iteF q
    | true =>
      refine iteT ?_
      refine ⟨_, rfl, _, _, t, _, c, rfl, .ty _, ty, h2, c, rfl, ?_⟩
      exact q
theorem isint_int {H : Hp} {i : Int} {Q : VK} (q : Q (.bl true) H) : sp_isint K [.int i] H Q E0 := ⟨_, .type "int", true, false, rfl, .base (.int i), kit_ty (by decide +kernel), kit_ty (by decide +kernel), q⟩
theorem isint_not {H : Hp} {v : V} {Q : VK} (h : NotInt K H v) (q : Q (.bl false) H) : sp_isint K [v] H Q E0 := by
  obtain ⟨t, b, c, ty, h1, h2, h3⟩ := h
  exact ⟨v, t, b, c, rfl, ty, h1, h2, h3 ▸ q⟩
/-! is_count -/
def sp_count (K : PySem.W.Frag) : Sp := fun vs H Q _ => ∃ (v : V), vs = [v] ∧ ((∃ i, v = .int i ∧ Q (.bl (decide (0 ≤ i))) H) ∨ (NotInt K H v ∧ Q (.bl false) H))
theorem c_count {K : PySem.W.Frag} {v : V} {H : Hp} {Q : VK} {E : XK}  (q : ((∃ i, v = .int i ∧ Q (.bl (decide (0 ≤ i))) H) ∨ (NotInt K H v ∧ Q (.bl false) H))) : sp_count K [v] H Q E := ⟨_, rfl, q⟩
theorem ok_count {f : Addr} {fd : FuncData} (F : Df K "is_count" "is_count" s_count [] f fd) (cI : Ca P w K mg base 1 "is_integer" (sp_isint K) []) : FnOk P w K mg base CX0 2 f fd ["value"] (sp_count K) := by
  refine dfOk F sc_count (fun vs H Q E h => ?_) (fun cdv A outer s H vs Q E hr h => ?_)
  · obtain ⟨v, rfl, _⟩ := h
    rfl
  · obtain ⟨v, rfl, h⟩ := h
    refine ⟨_, (pss_one (ps_ret (pe_and (pe_ca cI hr (by decide) (by rfl) (pa_cons (pv 0) pa_nil)) (pe_one (pe_cmpR op_ge (pv 0) pe_int (nomark _)))))), ?_⟩
    rcases h with ⟨i, rfl, q⟩ | ⟨n, q⟩
    · exact ⟨_, rfl, tnil (isint_int ⟨_, rfl, iteT ⟨_, rfl, _, _, rfl, rfl, q⟩⟩)⟩
    · exact ⟨_, rfl, tnil (isint_not n ⟨_, rfl, iteF q⟩)⟩
theorem count_int {H : Hp} {i : Int} {Q : VK} (h : 0 ≤ i) (q : Q (.bl true) H) : sp_count K [.int i] H Q E0 := ⟨_, rfl, .inl ⟨i, rfl, by rw [decide_eq_true h]; exact q⟩⟩
/-! is_list -/
def sp_islist (K : PySem.W.Frag) : Sp := fun vs H Q _ => ∃ (v : V) (t : Value) (b c : Bool), vs = [v] ∧ TyX K H v t ∧ PySem.W.kitOne K t (.type "list") = some b ∧ PySem.W.kitOne K t (.type "tuple") = some c ∧ ∀ H', Same H H' → Q (.bl (b || c)) H'
theorem c_islist {K : PySem.W.Frag} {v : V} {t : Value} {b c : Bool} {H : Hp} {Q : VK} {E : XK} (h0 : TyX K H v t) (h1 : PySem.W.kitOne K t (.type "list") = some b) (h2 : PySem.W.kitOne K t (.type "tuple") = some c) (q : ∀ H', Same H H' → Q (.bl (b || c)) H') : sp_islist K [v] H Q E := ⟨_, _, _, _, rfl, h0, h1, h2, q⟩
theorem TyX.same {H H' : Hp} {v : V} {t : Value} (h : TyX K H v t) (s : Same H H') : TyX K H' v t := by
  cases h with
  | base h =>
    cases h with
    | non => exact .base .non
    | bl x => exact .base (.bl x)
    | int x => exact .base (.int x)
    | str x => exact .base (.str x)
    | flt x => exact .base (.flt x)
    | lst e => exact .base (.lst (s _ _ e))
    | frz e => exact .base (.frz (s _ _ e))
    | tup e => exact .base (.tup (s _ _ e))
    | dK e => exact .base (.dK (s _ _ e))
    | dT e => exact .base (.dT (s _ _ e))
    | ins e cl ha hn htk hm => exact .base (.ins (s _ _ e) cl ha hn htk hm)
  | byt b => exact .byt b
  | set e => exact .set (s _ _ e)
  | kList e c => exact .kList e c
  | kTuple e c => exact .kTuple e c
  | kDict e c => exact .kDict e c
  | fTuple e => exact .fTuple (s _ _ e)
  | fDict e => exact .fDict (s _ _ e)
theorem ok_islist {f : Addr} {fd : FuncData} (F : Df K "is_list" "is_list" s_islist [] f fd) (B : Blt mg) : FnOk P w K mg base CX0 1 f fd ["value"] (sp_islist K) := by
  refine dfOk F sc_islist (fun vs H Q E h => ?_) (fun cdv A outer s H vs Q E hr h => ?_)
  · obtain ⟨v, t, b, c, rfl, _⟩ := h
    rfl
  · obtain ⟨v, t, b, c, rfl, ty, h1, h2, q⟩ := h
    refine ⟨_, (pss_one (ps_ret (pe_callB call_isiT (by rfl) B.isinstance bt_isinstance (pa_cons (pv 0) (pa_cons (pe_tup (pa_cons (pe_bltn (v := .ty "list") (by rfl) B.list bt_list rfl) (pa_cons (pe_bltn (v := .ty "tuple") (by rfl) B.tuple bt_tuple rfl) pa_nil))) pa_nil))))), ?_⟩
    refine ⟨_, rfl, by show 2 ≤ sizeLine; decide, fun p hp => ?_⟩
    refine ⟨v, p, _, t, [.type "list", .type "tuple"], b || c, rfl, upd_same, .cons (.ty _) (.cons (.ty _) .nil), TyX.same ty (same_new hp), ?_, q _ (same_new hp)⟩
    cases b with
    | true => exact kitAny_cons h1 (fun z => absurd z (by decide)) (fun _ => rfl)
    | false =>
      refine kitAny_cons h1 (fun _ => ?_) (fun z => absurd z (by decide))
      cases c with
      | true => exact kitAny_cons h2 (fun z => absurd z (by decide)) (fun _ => rfl)
      | false => exact kitAny_cons h2 (fun _ => rfl) (fun z => absurd z (by decide))
theorem islist_seq {H : Hp} {b : Bool} {a : Addr} {xs : List V} {Q : VK} (h : SqK b K H a xs) (q : ∀ H', Same H H' → Q (.bl true) H') : sp_islist K [.ref a] H Q E0 := by
  cases b
  · exact ⟨_, _, false, true, rfl, tyT h, kit_ty (by decide +kernel), kit_ty (by decide +kernel), q⟩
  · exact ⟨_, _, true, false, rfl, tyL h, kit_ty (by decide +kernel), kit_ty (by decide +kernel), q⟩
/-! is_axis, are_parts, is_cut -/
def sp_isaxis : Sp := fun vs H Q _ => ∃ a : Nat, vs = [.str (axn a)] ∧ Q (.bl true) H
theorem ok_isaxis {f : Addr} {fd : FuncData} (F : Df K "is_axis" "is_axis" s_isaxis [] f fd) (B : Blt mg) (G : PlG K mg C AX) : FnOk P w K mg base CX0 1 f fd ["value"] sp_isaxis := by
  refine dfOk F sc_isaxis (fun vs H Q E h => ?_) (fun cdv A outer s H vs Q E hr h => ?_)
  · obtain ⟨v, rfl, _⟩ := h
    rfl
  · obtain ⟨a, rfl, q⟩ := h
    refine ⟨_, (pss_one (ps_ret (pe_and (pe_callB call_isi' (by rfl) B.isinstance bt_isinstance (pa_cons (pv 0) (pa_cons (pe_bltn (v := .ty "str") (by rfl) B.str bt_str rfl) pa_nil))) (pe_one (pe_cmpR op_in_seq (pv 0) (pe_glob (v := .ref AX) (by rfl) G.axes rfl) (by rfl)))))), ?_⟩
    refine ⟨_, rfl, _, _, _, _, true, rfl, .ty _, .base (.str _), kit_ty (by decide +kernel), true, rfl, iteT ?_⟩
    refine ⟨_, rfl, AX, _, rfl, .inr (G.axt H), rfl, rfl, ?_⟩
    have e : inV (.str (axn a)) [.str "east", .str "north"] = true := by
      unfold axn
      split <;> decide +kernel
    show Q (.bl (inV (.str (axn a)) [.str "east", .str "north"])) H
    rw [e]
    exact q
def sp_areparts : Sp := fun vs H Q _ => ∃ i : Int, vs = [.int i] ∧ 2 ≤ i ∧ i ≤ 4 ∧ Q (.bl true) H
theorem ok_areparts {f : Addr} {fd : FuncData} (F : Df K "are_parts" "are_parts" s_areparts [] f fd) (G : PlG K mg C AX) (cI : Ca P w K mg base 1 "is_integer" (sp_isint K) []) : FnOk P w K mg base CX0 2 f fd ["value"] sp_areparts := by
  refine dfOk F sc_areparts (fun vs H Q E h => ?_) (fun cdv A outer s H vs Q E hr h => ?_)
  · obtain ⟨v, rfl, _⟩ := h
    rfl
  · obtain ⟨i, rfl, h1, h2, q⟩ := h
    refine ⟨_, (pss_one (ps_ret (pe_and (pe_ca cI hr (by decide) (by rfl) (pa_cons (pv 0) pa_nil)) (pe_one (pe_chain op_le op_le (pe_globI G.few (by rfl)) (pv 0) (pe_globI G.most (by rfl))))))), ?_⟩
    refine ⟨_, rfl, tnil (isint_int ⟨_, rfl, iteT ⟨_, rfl, _, _, rfl, rfl, _, rfl, ?_⟩⟩)⟩
    rw [decide_eq_true h1]
    refine iteT ⟨_, _, rfl, rfl, ?_⟩
    show Q (.bl (decide (i ≤ 4))) H
    rw [decide_eq_true h2]
    exact q
def sp_iscut (K : PySem.W.Frag) : Sp := fun vs H Q _ => ∃ (v : V) (c : Pm.Cut), vs = [v] ∧ Dp K H v (pCut c) ∧ Pm.CutOk c ∧ Q (.bl true) H
theorem c_iscut {K : PySem.W.Frag} {v : V} {c : Pm.Cut} {H : Hp} {Q : VK} {E : XK} (h0 : Dp K H v (pCut c)) (h1 : Pm.CutOk c) (q : Q (.bl true) H) : sp_iscut K [v] H Q E := ⟨_, _, rfl, h0, h1, q⟩
theorem cut_at {H : Hp} {v : V} {c : Pm.Cut} (h : Dp K H v (pCut c)) : ∃ a, v = .ref a ∧ SqT K H a [.str (axn c.1), .int c.2] := by
  obtain ⟨a, xs, rfl, hs, ha⟩ := h.tupE
  cases ha with
  | cons h1 h2 =>
    cases h2 with
    | cons h2 h3 =>
      cases h3
      rw [h1.strE, h2.intE] at hs
      exact ⟨a, rfl, hs⟩
theorem ok_iscut {f : Addr} {fd : FuncData} (F : Df K "is_cut" "is_cut" s_iscut [] f fd) (B : Blt mg) (cA : Ca P w K mg base 1 "is_axis" sp_isaxis []) (cP : Ca P w K mg base 2 "are_parts" sp_areparts []) : FnOk P w K mg base CX0 3 f fd ["value"] (sp_iscut K) := by
  refine dfOk F sc_iscut (fun vs H Q E h => ?_) (fun cdv A outer s H vs Q E hr h => ?_)
  · obtain ⟨v, c, rfl, _⟩ := h
    rfl
  · obtain ⟨v, c, rfl, hd, hc, q⟩ := h
    obtain ⟨a, rfl, hs⟩ := cut_at hd
    have h1 := hc.2.1
    have h2 := hc.2.2
    refine ⟨_, (pss_one (ps_ret (pe_and (pe_callB call_isi' (by rfl) B.isinstance bt_isinstance (pa_cons (pv 0) (pa_cons (pe_bltn (v := .ty "tuple") (by rfl) B.tuple bt_tuple rfl) pa_nil))) (pe_and (pe_cmpR op_eq (pe_callB call_len_seq' (by rfl) B.len bt_len (pa_cons (pv 0) pa_nil)) pe_int (nomark _)) (pe_and (pe_ca cA hr (by decide) (by rfl) (pa_cons (pe_ix ix_tup' (pv 0) pe_int (fun _ _ => rfl)) pa_nil)) (pe_one (pe_ca cP hr (by decide) (by rfl) (pa_cons (pe_ix ix_tup' (pv 0) pe_int (fun _ _ => rfl)) pa_nil)))))))), ?_⟩
    refine ⟨_, rfl, _, _, _, _, true, rfl, .ty _, tyT hs, kit_ty (by decide +kernel), true, rfl, iteT ?_⟩
    refine ⟨_, rfl, a, _, rfl, .inr hs, rfl, _, rfl, iteT ?_⟩
    refine ⟨_, rfl, a, _, _, _, rfl, rfl, hs, rfl, c.1, rfl, _, rfl, iteT ?_⟩
    exact ⟨_, rfl, a, _, _, _, rfl, rfl, hs, rfl, _, rfl, by omega, by omega, q⟩
/-! is_round -/
def sp_isround (K : PySem.W.Frag) : Sp := fun vs H Q _ => ∃ (v : V) (b : Bool) (r : List Pm.Cut), vs = [v] ∧ Dp K H v (dSeq b (r.map pCut)) ∧ Pm.RndOk r ∧ ∀ H', Same H H' → Q (.bl true) H'
theorem c_isround {K : PySem.W.Frag} {v : V} {b : Bool} {r : List Pm.Cut} {H : Hp} {Q : VK} {E : XK} (h0 : Dp K H v (dSeq b (r.map pCut))) (h1 : Pm.RndOk r) (q : ∀ H', Same H H' → Q (.bl true) H') : sp_isround K [v] H Q E := ⟨_, _, _, rfl, h0, h1, q⟩
theorem ok_isround {f : Addr} {fd : FuncData} (F : Df K "is_round" "is_round" s_isround [] f fd) (B : Blt mg) (G : PlG K mg C AX) (cL : Ca P w K mg base 1 "is_list" (sp_islist K) []) (cC : Ca P w K mg base 3 "is_cut" (sp_iscut K) []) : FnOk P w K mg base CX0 4 f fd ["value"] (sp_isround K) := by
  refine dfOk F sc_isround (fun vs H Q E h => ?_) (fun cdv A outer s H vs Q E hr h => ?_)
  · obtain ⟨v, b, r, rfl, _⟩ := h
    rfl
  · obtain ⟨v, b, r, rfl, hd, hok, q⟩ := h
    obtain ⟨a, xs, rfl, hs, ha⟩ := hd.seqE
    have hlen : xs.length = r.length := by rw [ha.len, List.length_map]
    have l1 := hok.1
    have l2 := hok.2.1
    refine ⟨_, (pss_one (ps_ret (pe_and (pe_ca cL hr (by decide) (by rfl) (pa_cons (pv 0) pa_nil)) (pe_and (pe_chain op_le op_le pe_int (pe_callB call_len_seq' (by rfl) B.len bt_len (pa_cons (pv 0) pa_nil)) (pe_ccon G.mc (by rfl) G.mgC)) (pe_one (pe_callB (cr_all rfl) (by rfl) B.all bt_all (pa_cons (pe_lc (own := [("cut", 1)]) (by rfl) sc_isround.nd (pi_seq (pv 0)) (blkOk_by (own := [("cut", 1)]) (N := ["value", "cut"]) (sc := defScope s_isround) (by decide +kernel)) (fun _ _ _ _ _ => (pg_name (i := 1) sc_isround.nd rfl (Or.inl rfl))) (fun _ _ _ _ _ => pts_nil) (fun _ _ _ _ _ => (pe_ca cC hr (by decide) (by rfl) (pa_cons (pv 1) pa_nil)))) pa_nil))))))), ?_⟩
    refine ⟨_, rfl, tnil (islist_seq hs fun H1 s1 => ⟨_, rfl, iteT ?_⟩)⟩
    have hs1 := Same.sqk s1 hs
    refine ⟨_, rfl, a, _, rfl, sqK_or hs1, _, _, rfl, rfl, _, rfl, ?_⟩
    rw [decide_eq_true (show (1 : Int) ≤ (xs.length : Nat) by omega)]
    refine iteT ⟨_, _, rfl, rfl, _, rfl, ?_⟩
    rw [decide_eq_true (show ((xs.length : Nat) : Int) ≤ 5 by omega)]
    refine iteT ?_
    refine ⟨_, rfl, b, a, xs, rfl, hs1, fun D hD => lc_nl (K := K) walk_K (List.replicate xs.length (.bool true)) (by simp) (by omega) (NLs.of fun d hd => by rw [List.eq_of_mem_replicate hd]; rfl) hD (fun H' s' => Same.sqk s' hs1) ?_ ?_ gName_mono⟩
    · rintro i e x H2 _ Q2 hi he s2 ⟨rfl, hx⟩ hq
      refine ⟨rfl, ?_⟩
      obtain ⟨d, hd1, hd2⟩ := ha.get hx
      rw [List.getElem?_map] at hd1
      obtain ⟨c, hc1, rfl⟩ := Option.map_eq_some_iff.mp hd1
      have hcm : c ∈ r := List.mem_of_getElem? hc1
      obtain rfl : e = .bool true := by
        have := List.mem_of_getElem? he
        exact List.eq_of_mem_replicate this
      exact ⟨_, rfl, x, c, rfl, (hd2.up s1).up s2, hok.2.2.1 c hcm, hq _ _ (Same.refl _) (.bl true)⟩
    · rintro H2 ys s2 eD hall
      have hys : ys = (List.replicate xs.length true).map V.bl := DpAll.boolsE (by rw [List.map_replicate]; exact hall)
      refine ⟨D, List.replicate xs.length true, rfl, SqL.of (by rw [eD, hys]), ?_⟩
      have e : (List.replicate xs.length true).all id = true := by simp
      rw [e]
      exact q _ (s1.trans s2)
/-! parts_along -/
def sp_along1 (K : PySem.W.Frag) : Sp := fun vs H Q _ => ∃ (v : V) (b : Bool) (r : List Pm.Cut) (ax : Nat), vs = [v, .str (axn ax)] ∧ ax < 2 ∧ Dp K H v (dSeq b (r.map pCut)) ∧ Pm.RndOk r ∧ Q (.int (Pm.wid r ax)) H
theorem c_along1 {K : PySem.W.Frag} {v : V} {b : Bool} {r : List Pm.Cut} {ax : Nat} {H : Hp} {Q : VK} {E : XK} (h0 : ax < 2) (h1 : Dp K H v (dSeq b (r.map pCut))) (h2 : Pm.RndOk r) (q : Q (.int (Pm.wid r ax)) H) : sp_along1 K [v, .str (axn ax)] H Q E := ⟨_, _, _, _, rfl, h0, h1, h2, q⟩
theorem wid_take {r : List Pm.Cut} {i : Nat} {c : Pm.Cut} (h : r[i]? = some c) (ax : Nat) : Pm.wid (r.take (i + 1)) ax = Pm.wid (r.take i) ax * (if c.1 = ax then c.2 else 1) := by
  rw [List.take_add_one, h]
  simp only [Option.toList]
  rw [Pm.wid_app]
  simp [Pm.wid]
theorem wid_le {r : List Pm.Cut} (h : Pm.RndOk r) (i ax : Nat) (hax : ax < 2) : Pm.wid (r.take i) ax ≤ 32 := by
  have hc := h.2.2.1
  have e := Pm.wid_app (r.take i) (r.drop i) ax
  rw [List.take_append_drop] at e
  have p := Pm.wid_pos (r := r.drop i) (fun c hc' => hc c (List.mem_of_mem_drop hc')) ax
  have l1 : Pm.wid (r.take i) ax ≤ Pm.wid r ax := by rw [e]; exact Nat.le_mul_of_pos_right _ p
  have es := Pm.size_wid hc
  have s := h.2.2.2
  have p0 := Pm.wid_pos hc 0
  have p1 := Pm.wid_pos hc 1
  have h01 : ax = 0 ∨ ax = 1 := by omega
  rcases h01 with rfl | rfl
  · have := Nat.le_mul_of_pos_right (Pm.wid r 0) p1; omega
  · have := Nat.le_mul_of_pos_left (Pm.wid r 1) p0; omega
theorem ok_along1 {f : Addr} {fd : FuncData} (F : Df K "parts_along" "parts_along" s_along1 [] f fd) : FnOk P w K mg base CX0 1 f fd ["cuts", "axis"] (sp_along1 K) := by
  refine dfOk F sc_along1 (fun vs H Q E h => ?_) (fun cdv A outer s H vs Q E hr h => ?_)
  · obtain ⟨v, b, r, ax, rfl, _⟩ := h
    rfl
  · obtain ⟨v, b, r, ax, rfl, hax, hd, hok, q⟩ := h
    obtain ⟨a, xs, rfl, hs, ha⟩ := hd.seqE
    have hlen : xs.length = r.length := by rw [ha.len, List.length_map]
    refine ⟨_, (pss_cons (ps_set (i := 2) sc_along1.nd rfl (Or.inl rfl) pe_int)
  (pss_cons (ps_for PassesOwn.never rfl (pi_seq (pv 0)) (pg_tup' 2 (pgs_cons (pg_name (i := 3) sc_along1.nd rfl (Or.inl rfl)) (pgs_cons (pg_name (i := 4) sc_along1.nd rfl (Or.inl rfl)) pgs_nil)))
  (pss_one (ps_if (pt_cmpR op_eq (pv 3) (pv 1) (nomark _))
  (pss_one (ps_set (i := 2) sc_along1.nd rfl (Or.inl rfl) (pe_op op_mul (pv 2) (pv 4))))
  pss_nil)))
  (pss_one (ps_ret (pv 2))))), ?_⟩
    refine ⟨_, rfl, b, a, xs, rfl, hs, for_it walk_K (fun i σ H' => H' = H ∧ ∃ v1 v2, σ = [some (.ref a), some (.str (axn ax)), some (.int (Pm.wid (r.take i) ax)), v1, v2]) ⟨rfl, _, _, rfl⟩ (fun i σ H' _ h => by rw [h.1]; exact hs) ?_ ?_⟩
    · rintro i x σ H' H'' hi ⟨rfl, v1, v2, rfl⟩ ⟨rfl, hx⟩
      obtain ⟨d, hd1, hd2⟩ := ha.get hx
      rw [List.getElem?_map] at hd1
      obtain ⟨c, hc1, rfl⟩ := Option.map_eq_some_iff.mp hd1
      have hcm : c ∈ r := List.mem_of_getElem? hc1
      have hc := hok.2.2.1 c hcm
      obtain ⟨t, rfl, ht⟩ := cut_at hd2
      have hw := wid_take hc1 ax
      have hb := wid_le hok i ax hax
      refine ⟨t, _, rfl, ht, rfl, _, _, rfl, _, _, rfl, rfl, ?_⟩
      refine ⟨_, rfl, _, rfl, rfl, _, rfl, ?_⟩
      rw [axn_eq hc.1 hax]
      refine ite2 (fun h => ?_) (fun h => ?_)
      · have h' := of_decide_eq_true h
        refine ⟨_, rfl, _, rfl, _, _, rfl, rfl, .inl ⟨by omega, by omega⟩, rfl, some (.str (axn c.1)), some (.int c.2), ?_⟩
        rw [hw, if_pos h', Int.natCast_mul]
        rfl
      · have h' : ¬ c.1 = ax := fun z => h (decide_eq_true z)
        refine ⟨rfl, some (.str (axn c.1)), some (.int c.2), ?_⟩
        rw [hw, if_neg h', Nat.mul_one]
        rfl
    · rintro σ H' ⟨rfl, v1, v2, rfl⟩
      refine ⟨_, rfl, ?_⟩
      rw [hlen, List.take_length]
      exact q
end
end T
set_option Elab.async false
set_option maxRecDepth 100000
set_option maxHeartbeats 4000000
namespace L2
open PySem PySem.Spec PyProof.Rows Mv
section
variable {K : PySem.W.Frag}
/-- lists of data without lists, none of them at D -/
inductive LAll (K : PySem.W.Frag) (H : Hp) (D : Addr) : List V → List (List PyData) → Prop
  | nil : LAll K H D [] []
  | cons {q : Addr} {zs ys : List V} {e : List PyData} {es : List (List PyData)} (n : q ≠ D) (h : H q = some (.lst zs)) (ha : DpAll K H zs e) (r : LAll K H D ys es) : LAll K H D (.ref q :: ys) (e :: es)
theorem LAll.app {H : Hp} {D : Addr} : ∀ {xs ys : List V} {es fs : List (List PyData)}, LAll K H D xs es → LAll K H D ys fs → LAll K H D (xs ++ ys) (es ++ fs)
  | _, _, _, _, .nil, h => h
  | _, _, _, _, .cons n h ha r, g => .cons n h ha (LAll.app r g)
theorem LAll.len {H : Hp} {D : Addr} : ∀ {xs : List V} {es : List (List PyData)}, LAll K H D xs es → xs.length = es.length
  | _, _, .nil => rfl
  | _, _, .cons _ _ _ r => by rw [List.length_cons, List.length_cons, LAll.len r]
theorem LAll.bu {H H' : Hp} {D : Addr} {ws : List V} (b : Bu D H H') (hD : H D = some (.lst ws)) : ∀ {xs : List V} {es : List (List PyData)}, (∀ e ∈ es, NLs e = true) → LAll K H D xs es → LAll K H' D xs es
  | _, _, _, .nil => .nil
  | _, _, nl, .cons n h ha r => .cons n (b _ _ n h) (ha.bu (nl _ (List.mem_cons_self ..)) b hD) (LAll.bu b hD (fun e he => nl e (List.mem_cons_of_mem _ he)) r)
theorem LAll.dp {H : Hp} {D : Addr} : ∀ {xs : List V} {es : List (List PyData)}, LAll K H D xs es → DpAll K H xs (es.map PyData.list)
  | _, _, .nil => .nil
  | _, _, .cons _ h ha r => .cons (.lst (SqL.of h) ha) (LAll.dp r)
/-- a comprehension whose items are new lists of data without lists -/
theorem lc_ll {J : It} {n : Nat} {G : Hp → Prop} {Y : Nat → Hp → V → Hp → Prop} (w : Walk J n G Y) {g : TG} {te : TE} {vs : List Nat} {σ : L2.St} {H1 : Hp} {D : Addr} {Qd : Hp → Prop} (es : List (List PyData)) (hn : es.length = n) (hz : n ≤ 100000) (hl : ∀ e ∈ es, NLs e = true) (hD : H1 D = none)
    (hG : ∀ H, Same H1 H → G H)
    (hs : ∀ (i : Nat) (e : List PyData) (x : V) (H H' : Hp) (Q : VK), i < n → es[i]? = some e → Same H1 H → Y i H x H' → (∀ q zs H4, Same H H4 → H q = none → H4 q = some (.lst zs) → DpAll K H4 zs e → Q (.ref q) H4) →
      g x (wipe σ vs) H' fun σ2 H2 => wipe σ2 vs = wipe σ vs ∧ te σ2 H2 Q)
    (hd : ∀ H ys, Same H1 H → H D = some (.lst ys) → DpAll K H ys (es.map PyData.list) → Qd H) (hg : ∀ x σ' H' (P Q : L2.St → Hp → Prop), (∀ σ2 H2, P σ2 H2 → Q σ2 H2) → g x σ' H' P → g x σ' H' Q) :
    ∃ W : Nat → Nat → Hp → Prop, (∃ m, W 0 m (upd H1 D (.lst []))) ∧ ∀ i m H, W i m H →
      (J.stop i H ∧ Qd H) ∨ (J.go i H ∧ ∃ Nx : Hp → Prop, (∀ H', Nx H' → ∃ m', m' < m ∧ W (i + 1) m' H') ∧ ∀ x H', J.yld i H x H' → g x (wipe σ vs) H' fun σ2 H2 => wipe σ2 vs = wipe σ vs ∧ tYes σ2 H2 fun b H3 =>
        if b = true then te σ2 H3 fun y H4 => ∃ acc, H4 D = some (.lst acc) ∧ acc.length < sizeLine ∧ Nx (upd H4 D (.lst (acc ++ [y]))) else Nx H3) := by
  refine lc_it w (fun i H => Same H1 H ∧ ∃ ys, H D = some (.lst ys) ∧ LAll K H D ys (es.take i)) ⟨same_new hD, [], upd_same, by simp; exact .nil⟩ (fun i H _ h => hG H h.1) ?_ ?_
  · rintro i x H H' hi ⟨s, ys, ed, ha⟩ hy
    have he : es[i]? = some es[i] := List.getElem?_eq_getElem (by omega)
    refine hg x _ H' _ _ (fun σ2 H2 h => ⟨h.1, h.2⟩) (hs i es[i] x H H' (fun y H4 => ∃ acc, H4 D = some (.lst acc) ∧ acc.length < sizeLine ∧ Same H1 (upd H4 D (.lst (acc ++ [y]))) ∧ ∃ ys, upd H4 D (.lst (acc ++ [y])) D = some (.lst ys) ∧ LAll K (upd H4 D (.lst (acc ++ [y]))) D ys (es.take (i + 1))) hi he s hy fun q zs H4 s4 hq eq dz => ?_)
    have e4 := s4 _ _ ed
    have hlen := ha.len
    have hqD : q ≠ D := fun z => by rw [z, ed] at hq; cases hq
    refine ⟨ys, e4, ?_, same_over (s.trans s4) hD, ys ++ [.ref q], upd_same, ?_⟩
    · rw [hlen, List.length_take]; unfold sizeLine; omega
    · rw [List.take_add_one, he]
      have b1 : Bu D H (upd H4 D (.lst (ys ++ [.ref q]))) := (Bu.of s4 D).trans Bu.set
      have b2 : Bu D H4 (upd H4 D (.lst (ys ++ [.ref q]))) := Bu.set
      exact (ha.bu b1 ed (fun e he => hl e (List.mem_of_mem_take he))).app (.cons hqD (b2 _ _ hqD eq) (dz.bu (hl _ (List.getElem_mem _)) b2 e4) .nil)
  · rintro H ⟨s, ys, ed, ha⟩
    refine hd H ys s ed ?_
    rw [← hn, List.take_length] at ha
    exact ha.dp
theorem NLs.map {α : Type} (f : α → PyData) (h : ∀ x, NL (f x) = true) (xs : List α) : NLs (xs.map f) = true := NLs.of fun d hd => by
  obtain ⟨x, _, rfl⟩ := List.mem_map.mp hd
  exact h x
theorem NL.pCut (c : Pm.Cut) : NL (Mv.pCut c) = true := rfl
theorem NL.lCut (c : Pm.Cut) : NL (Mv.lCut c) = true := rfl
end
end L2
namespace Mv
open PySem PySem.Spec PyProof.Rows L2
section
variable {P : Program} {w : World} {K : PySem.W.Frag} {mg : Str → Option Value} {base : Heap}
theorem dfStar {x qual : Str} {st : Stmt} {f : Addr} {fd : FuncData} {N ps : List Str} {pv : Str} {k : Nat} {sp : Sp} (F : Df K x qual st [] f fd) (S : FnScope N (ps ++ [pv]) (defScope st))
    (hb : ∀ (kV doc pm : Value) (an : Option Addr) (cdv ct : Value) (us rest : List Value), us.length = ps.length → bindArgs (PySem.W.fnOf x qual (defArgs st) (defBody st) (defScope st) .none kV doc pm an cdv ct) ⟨us ++ rest, []⟩ = (newTuple rest >>= fun t => pure (ps.zip us ++ [(pv, t)])))
    (hbody : ∀ (cdv : Value) (A : Around) (outer : List Env) (s : Shared) (H : Hp) (vs : List V) (Q : VK) (E : XK), Room k (A.deeper (envOfC qual (defScope st) s.heap.objs.size f cdv)) → sp vs H Q E →
      ∃ t, PSs (cxOf CX0 P w K mg base N qual (defScope st) f cdv A outer s H E).nox (defBody st) t ∧ t { nx := fun _ H' => Q .non H', rt := Q } (start N vs) H) :
    FnR P w K mg base CX0 (k + 1) f (fun vs H Q E => ∃ ws rest, vs = ws ++ rest ∧ ws.length = ps.length ∧ rest.length ≤ sizeLine ∧ ∀ p, H p = Option.none → sp (ws ++ [V.ref p]) (upd H p (.tup rest)) Q E) := by
  obtain ⟨oc, od, dV, kV, doc, pm, an, cdv, ct, osl, rfl, lk, hcd, hd, _⟩ := F.ex
  rcases hd with ⟨_, e⟩ | ⟨e, _⟩
  · subst e
    refine StX.fn_star lk hcd S StX.cxUp_none (hb kV doc pm an cdv ct) fun A outer s H vs Q E hr hsp => ?_
    obtain ⟨t, h, q⟩ := hbody cdv A outer s H vs Q E hr hsp
    exact ⟨t, h.nox, q⟩
  · exact absurd rfl e
end
/-- a class made by positional arguments, any number of them -/
structure MaR (P : Program) (w : World) (K : PySem.W.Frag) (mg : Str → Option Value) (base : Heap) (k : Nat) (x : Str) (C : Addr) (sp : Sp) : Prop where
  ex : ∃ (f : Addr), Mk K C f ∧ FnR P w K mg base CX0 k f sp ∧ mg x = some (.ref C)
section
variable {X : Cx} {k j : Nat} {C : Addr} {x : Str} {sp : Sp} {p pos : Pos} {e : Expr} {es : List Expr} {t : TA}
theorem pe_mar (c : MaR X.prog X.w X.K X.mg X.base k x C sp) (hr : Room j X.A) (hk : k + 1 ≤ j) (hg : Gl X x) (ha : PA X (e :: es) t)
    (hdb : (x == ("__debug__" : Str)) = false := by decide) (he : starEach (e :: es) X.env = (false, eval e X.env) :: starEach es X.env := by rfl) (hpl : (backTo pos (starEach es X.env)).any (·.1) = false := by rfl) :
    PE X (.Call (.Name x p) (e :: es) [] pos) (StX.tMakeR C sp E0 t) := by
  obtain ⟨f, M, F, hm⟩ := c.ex
  exact StX.pe_makeR M F (hr.mono hk) hg hm pass0 ha hdb he hpl
end
end Mv
set_option Elab.async false
set_option maxRecDepth 100000
set_option maxHeartbeats 4000000
namespace Mv
open PySem PySem.Spec PyProof.Rows L2
/-- a pot: two counts -/
structure Pot (H : Hp) (p : Addr) : Prop where
  ex : ∃ x y : Int, H p = some (.lst [.int x, .int y]) ∧ 0 ≤ x ∧ 0 ≤ y ∧ y < 2147483648
theorem Pot.new {H : Hp} {p q : Addr} {o : HO} (h : Pot H p) (hq : H q = none) : Pot (upd H q o) p := by
  obtain ⟨x, y, e, r⟩ := h.ex
  exact ⟨x, y, by rw [upd_ne (ne_of_none e hq)]; exact e, r⟩
theorem Pot.ne {H : Hp} {p q : Addr} (h : Pot H p) (hq : H q = none) : q ≠ p := by
  obtain ⟨x, y, e, _⟩ := h.ex
  exact (ne_of_none e hq).symm
theorem Pot.same {H H' : Hp} {p : Addr} (h : Pot H p) (s : Same H H') : Pot H' p := by
  obtain ⟨x, y, e, r⟩ := h.ex
  exact ⟨x, y, s _ _ e, r⟩
theorem Pot.lst {H : Hp} {p : Addr} (h : Pot H p) : ∃ ys, H p = some (.lst ys) := by
  obtain ⟨x, y, e, _⟩ := h.ex
  exact ⟨_, e⟩
theorem _root_.L2.Bu.free {p q : Addr} {H H' : Hp} (b : Bu p H H') (hp : q ≠ p) (h : H' q = none) : H q = none := by
  cases e : H q with
  | none => rfl
  | some o => rw [b q o hp e] at h; cases h
theorem _root_.L2.Bu.seqL {K : PySem.W.Frag} {p l : Addr} {H H' : Hp} {xs : List V} (b : Bu p H H') (hl : l ≠ p) (h : SqL K H l xs) : SqL K H' l xs := by
  rcases h with (h | ⟨o, h⟩) | h
  · exact .inl (.inl (b _ _ hl h))
  · exact .inl (.inr ⟨o, b _ _ hl h⟩)
  · exact .inr h
theorem small_pow {n : Nat} (h : n ≤ 1000) : n < 2 ^ 8000 := Nat.lt_of_le_of_lt h (Nat.lt_of_lt_of_le (by decide : 1000 < 2 ^ 10) (Nat.pow_le_pow_right (by decide) (by decide)))
theorem log_small {n : Nat} (h : n ≤ 1000000000000000000) : n.log2 < 9000 := by
  rcases Nat.eq_zero_or_pos n with z | z
  · subst z; decide
  · exact (Nat.log2_lt (by omega)).mpr (Nat.lt_of_le_of_lt h (Nat.lt_of_lt_of_le (by decide : 1000000000000000000 < 2 ^ 60) (Nat.pow_le_pow_right (by decide) (by decide))))
/-! the promises of pot, draw and pick -/
def sp_pot (K : PySem.W.Frag) : Sp := fun vs H Q _ => ∃ (a : Addr) (ns : List Int) (k : Nat), vs = [.ref a, .int k] ∧ SqL K H a (ns.map V.int) ∧ k < 100 ∧
  ∀ p, H p = none → ∀ x y : Int, 0 ≤ x → 0 ≤ y → y < 2147483648 → Q (.ref p) (upd H p (.lst [.int x, .int y]))
/-- a draw below n -/
def sp_draw : Sp := fun vs H Q _ => ∃ (p : Addr) (n : Int), vs = [.ref p, .int n] ∧ Pot H p ∧ 0 < n ∧ n.natAbs ≤ 1000000000000000000 ∧ ∀ (d : Nat) (H' : Hp), (d : Int) < n → Pot H' p → Bu p H H' → Q (.int d) H'
def sp_pick (K : PySem.W.Frag) : Sp := fun vs H Q _ => ∃ (p l : Addr) (xs : List V), vs = [.ref p, .ref l] ∧ Pot H p ∧ l ≠ p ∧ SqL K H l xs ∧ xs ≠ [] ∧ xs.length ≤ 1000 ∧ ∀ (v : V) (H' : Hp), v ∈ xs → Pot H' p → Bu p H H' → Q v H'
end Mv
set_option Elab.async false
set_option maxRecDepth 100000
set_option maxHeartbeats 4000000
local macro_rules | `(tactic| walk_at "rd") => `(tactic| repeat (first
  | refine ⟨_, rfl, ?_⟩
  | refine ⟨_, _, rfl, rfl, ?_⟩
  | refine ⟨_, _, rfl, ?_⟩
  | refine Or.inl ⟨_, rfl, ?_⟩
  | refine ⟨.inl ⟨by decide, by decide⟩, ?_⟩
  | refine ⟨.inr ⟨by decide, by decide⟩, ?_⟩
  | refine ⟨(by decide : (0 : Int) < _), ?_⟩
  | refine ⟨⟨by decide, by decide, by decide⟩, ?_⟩))
namespace T
open PySem L2 Mv
abbrev s_pot : Stmt := top 66
theorem sc_pot : FnScope ["_law_script", "_law_k", "_law_cell_now"] ["_law_script", "_law_k"] (defScope s_pot) := ⟨rfl, rfl, rfl, by decide +kernel, rfl, by decide +kernel, by decide +kernel⟩
abbrev s_draw : Stmt := top 67
theorem sc_draw : FnScope ["_law_pot_here", "_law_size", "_law_digit"] ["_law_pot_here", "_law_size"] (defScope s_draw) := ⟨rfl, rfl, rfl, by decide +kernel, rfl, by decide +kernel, by decide +kernel⟩
abbrev s_pick : Stmt := top 68
theorem sc_pick : FnScope ["_law_pot_here", "_law_some"] ["_law_pot_here", "_law_some"] (defScope s_pick) := ⟨rfl, rfl, rfl, by decide +kernel, rfl, by decide +kernel, by decide +kernel⟩
section
variable {P : Program} {w : World} {K : PySem.W.Frag} {mg : Str → Option Value} {base : Heap} {C AX : Addr}
theorem ok_pot {f : Addr} {fd : FuncData} (F : Df K "_law_pot" "_law_pot" s_pot [] f fd) (B : Blt mg) : FnOk P w K mg base CX0 1 f fd ["_law_script", "_law_k"] (sp_pot K) := by
  refine dfOk F sc_pot (fun vs H Q E h => ?_) (fun cdv A outer s H vs Q E hr h => ?_)
  · obtain ⟨a, ns, k, rfl, _⟩ := h
    rfl
  · obtain ⟨a, ns, k, rfl, hS, hk, q⟩ := h
    refine ⟨_, (pss_cons (ps_set (i := 2) sc_pot.nd rfl (Or.inl rfl) (pe_ifExp (pt_cmpR op_lt (pv 1) (pe_callB call_len_seq' (by rfl) B.len bt_len (pa_cons (pv 0) pa_nil)) (nomark _)) (pe_callB call_abs (by rfl) B.abs bt_abs (pa_cons (pe_ix ix_list' (pv 0) (pv 1) (fun _ _ => rfl)) pa_nil)) (pe_op op_add (pe_op op_mul pe_int (pv 1)) pe_int)))
  (pss_one (ps_ret (pe_lst (pa_cons (pe_callB (call_max2 rfl) (by rfl) B.max bt_max (pa_cons pe_int (pa_cons (pe_op op_sub (pv 2) (pe_op op_pow pe_int pe_int)) pa_nil))) (pa_cons (pe_op op_add (pe_op op_mod (pe_op op_mul (pe_callTy call_int1 (by rfl) B.int bt_int (pa_cons (pe_op op_add (pe_op op_mod (pe_callTy call_int1 (by rfl) B.int bt_int (pa_cons (pv 2) pa_nil)) pe_int) pe_int) pa_nil)) (pe_op op_pow (pe_op op_add (pe_op op_mul pe_int (pv 1)) pe_int) pe_int)) pe_int) pe_int) pa_nil)))))), ?_⟩
    walk_at "rd"
    refine ⟨a, _, rfl, .inl hS, ?_⟩
    walk_at "rd"
    have fin : ∀ y : Int, 0 ≤ y % 2147483477 + 1 ∧ y % 2147483477 + 1 < 2147483648 := fun y => by omega
    have fin2 : ∀ z : Int, 0 ≤ (if z > 0 then z else 0) := fun z => by split <;> omega
    refine ite2 (fun hlt => ?_) (fun _ => ?_)
    · have hlt' : k < (ns.map V.int).length := by
        have h0 := of_decide_eq_true hlt
        omega
      have hn : k < ns.length := by simpa using hlt'
      walk_at "rd"
      refine ⟨a, _, _, _, rfl, rfl, hS, atI_nat (by rw [List.getElem?_map, List.getElem?_eq_getElem hn]; rfl), ?_⟩
      walk_at "rd"
      refine ⟨⟨by decide, by decide, by omega⟩, ?_⟩
      walk_at "rd"
      refine ⟨.inl ⟨by omega, by omega⟩, ?_⟩
      walk_at "rd"
      refine ⟨by show 2 ≤ sizeLine; decide, fun p hp => ?_⟩
      exact q p hp _ _ (fin2 _) (fin _).1 (fin _).2
    · walk_at "rd"
      refine ⟨⟨by decide, by decide, by omega⟩, ?_⟩
      walk_at "rd"
      refine ⟨.inl ⟨by omega, by omega⟩, ?_⟩
      walk_at "rd"
      refine ⟨by show 2 ≤ sizeLine; decide, fun p hp => ?_⟩
      exact q p hp _ _ (fin2 _) (fin _).1 (fin _).2
theorem ok_draw {f : Addr} {fd : FuncData} (F : Df K "_law_draw" "_law_draw" s_draw [] f fd) (B : Blt mg) : FnOk P w K mg base CX0 1 f fd ["_law_pot_here", "_law_size"] sp_draw := by
  refine dfOk F sc_draw (fun vs H Q E h => ?_) (fun cdv A outer s H vs Q E hr h => ?_)
  · obtain ⟨p, n, rfl, _⟩ := h
    rfl
  · obtain ⟨p, n, rfl, hp, hn, hz, q⟩ := h
    obtain ⟨x, y, e, hx, hy, hy2⟩ := hp.ex
    have fin : ∀ (d : Int) (H' : Hp), 0 ≤ d → d < n → Pot H' p → Bu p H H' → Q (.int d) H' := fun d H' h0 h1 h2 h3 => by
      obtain ⟨j, rfl⟩ := Int.eq_ofNat_of_zero_le h0
      exact q j H' h1 h2 h3
    refine ⟨_, (pss_cons (ps_if (pt_cmpR op_gt (pe_ix ix_list' (pv 0) pe_int (fun _ _ => rfl)) pe_int (nomark _))
  (pss_cons (ps_asg (pe_callB call_divmodW (by rfl) B.divmod bt_divmod (pa_cons (pe_ix ix_list' (pv 0) pe_int (fun _ _ => rfl)) (pa_cons (pv 1) pa_nil))) (pg_tup' 2 (pgs_cons (pg_sub (pv 0) pe_int set_list) (pgs_cons (pg_name (i := 2) sc_draw.nd rfl (Or.inl rfl)) pgs_nil))))
  (pss_one (ps_ret (pv 2))))
  pss_nil)
  (pss_cons (ps_asg (pe_op op_mod (pe_callTy call_int1 (by rfl) B.int bt_int (pa_cons (pe_op op_add (pe_op op_mul (pe_ix ix_list' (pv 0) pe_int (fun _ _ => rfl)) pe_int) pe_int) pa_nil)) pe_int) (pg_sub (pv 0) pe_int set_list))
  (pss_one (ps_ret (pe_op op_mod (pe_callTy call_int1 (by rfl) B.int bt_int (pa_cons (pe_op op_fdiv (pe_op op_mod (pe_callTy call_int1 (by rfl) B.int bt_int (pa_cons (pe_op op_mul (pe_ix ix_list' (pv 0) pe_int (fun _ _ => rfl)) (pe_ix ix_list' (pv 0) pe_int (fun _ _ => rfl))) pa_nil)) pe_int) pe_int) pa_nil)) (pv 1)))))), ?_⟩
    refine ⟨_, rfl, p, _, _, _, rfl, rfl, SqL.of e, rfl, _, _, rfl, rfl, _, rfl, ?_⟩
    refine ite2 (fun h => ?_) (fun h => ?_)
    · refine ⟨_, rfl, p, _, _, _, rfl, rfl, SqL.of e, rfl, _, rfl, _, _, rfl, divp_of hn (log_small hz), fun t ht => ?_⟩
      refine ⟨t, _, rfl, SqT.of upd_same, rfl, _, _, rfl, _, rfl, p, _, _, 0, rfl, rfl, by rw [upd_ne (ne_of_none e ht)]; exact e, rfl, _, _, rfl, rfl, _, rfl, ?_⟩
      refine fin _ _ (Int.emod_nonneg _ (by omega)) (Int.emod_lt_of_pos _ hn) ⟨_, y, upd_same, Int.ediv_nonneg hx (by omega), hy, hy2⟩ ((Bu.new ht).trans Bu.set)
    · refine ⟨_, rfl, p, _, _, _, rfl, rfl, SqL.of e, rfl, _, _, rfl, rfl, .inr ⟨by decide, by decide⟩, ?_⟩
      walk_at "rd"
      refine ⟨p, _, _, 1, rfl, rfl, e, rfl, ?_⟩
      have hb : ∀ z : Int, 0 ≤ z % 2147483587 ∧ z % 2147483587 < 2147483648 := fun z => by omega
      refine ⟨_, rfl, p, _, _, _, rfl, rfl, SqL.of upd_same, rfl, _, rfl, p, _, _, _, rfl, rfl, SqL.of upd_same, rfl, _, _, rfl, rfl, .inl ⟨Int.lt_of_lt_of_le (by decide) (hb _).1, Int.lt_trans (hb _).2 (by decide)⟩, ?_⟩
      walk_at "rd"
      refine ⟨⟨by decide, by decide⟩, ?_⟩
      walk_at "rd"
      refine ⟨hn, ?_⟩
      exact fin _ _ (Int.emod_nonneg _ (by omega)) (Int.emod_lt_of_pos _ hn) ⟨x, _, upd_same, hx, (hb _).1, (hb _).2⟩ Bu.set
theorem ok_pick {f : Addr} {fd : FuncData} (F : Df K "_law_pick" "_law_pick" s_pick [] f fd) (B : Blt mg) (cDr : Ca P w K mg base 1 "_law_draw" sp_draw []) : FnOk P w K mg base CX0 2 f fd ["_law_pot_here", "_law_some"] (sp_pick K) := by
  refine dfOk F sc_pick (fun vs H Q E h => ?_) (fun cdv A outer s H vs Q E hr h => ?_)
  · obtain ⟨p, l, xs, rfl, _⟩ := h
    rfl
  · obtain ⟨p, l, xs, rfl, hp, hl, hS, hne, hlen, q⟩ := h
    refine ⟨_, (pss_one (ps_ret (pe_ix ix_list' (pv 1) (pe_ca cDr hr (by decide) (by rfl) (pa_cons (pv 0) (pa_cons (pe_callB call_len_seq' (by rfl) B.len bt_len (pa_cons (pv 1) pa_nil)) pa_nil))) (fun _ _ => rfl)))), ?_⟩
    have h0 : 0 < xs.length := List.length_pos_iff.mpr hne
    refine ⟨_, rfl, _, rfl, _, rfl, l, xs, rfl, .inl hS, p, _, rfl, hp, by omega, by omega, fun j H' hd2 hp' b => ?_⟩
    have hj : j < xs.length := by omega
    exact ⟨l, xs, _, xs[j], rfl, rfl, b.seqL hl hS, atI_nat (by simp [hj]), q _ _ (List.getElem_mem hj) hp' b⟩
/-- a draw, as it is called -/
theorem draw_lt {H : Hp} {p : Addr} {n : Int} {Q : VK} (hp : Pot H p) (h0 : 0 < n) (h1 : n ≤ 1000000) (q : ∀ (d : Nat) (H' : Hp), (d : Int) < n → Pot H' p → Bu p H H' → Q (.int d) H') : sp_draw [.ref p, .int n] H Q E0 := ⟨p, n, rfl, hp, h0, by omega, q⟩
end
end T
set_option Elab.async false
set_option maxRecDepth 100000
set_option maxHeartbeats 4000000
namespace T
open PySem L2 Mv
abbrev s_prod : Stmt := inClass (top 47) 6
theorem sc_prod : FnScope ["self", "many", "columns", "rows", "position", "parts"] ["self", "many"] (defScope s_prod) := ⟨rfl, rfl, rfl, by decide +kernel, rfl, by decide +kernel, by decide +kernel⟩
abbrev s_init : Stmt := inClass (top 47) 3
theorem sc_init : FnScope ["self", "rounds", "cuts", "columns", "rows"] ["self", "rounds"] (defScope s_init) := ⟨rfl, rfl, rfl, by decide +kernel, rfl, by decide +kernel, by decide +kernel⟩
section
variable {P : Program} {w : World} {K : PySem.W.Frag} {mg : Str → Option Value} {base : Heap} {C AX : Addr}
/-- rounds as they are passed, each a list or a tuple -/
def pPass (brs : List (Bool × List Pm.Cut)) : List PyData := brs.map fun x => dSeq x.1 (x.2.map pCut)
def sp_wantrounds (K : PySem.W.Frag) : Sp := fun vs H Q _ => ∃ (v : V) (brs : List (Bool × List Pm.Cut)), vs = [v] ∧ Dp K H v (.tuple (pPass brs)) ∧ Pm.RdsOk (brs.map Prod.snd) ∧ ∀ H', Same H H' → Q .non H'
theorem c_wantrounds {K : PySem.W.Frag} {v : V} {brs : List (Bool × List Pm.Cut)} {H : Hp} {Q : VK} {E : XK} (h0 : Dp K H v (.tuple (pPass brs))) (h1 : Pm.RdsOk (brs.map Prod.snd)) (q : ∀ H', Same H H' → Q .non H') : sp_wantrounds K [v] H Q E := ⟨_, _, rfl, h0, h1, q⟩
theorem ok_wantrounds {f : Addr} {fd : FuncData} (F : Df K "want_rounds" "want_rounds" s_wantrounds [] f fd) (B : Blt mg) (G : PlG K mg C AX) (cR : Ca P w K mg base 4 "is_round" (sp_isround K) []) (c1 : Ca P w K mg base 1 "parts_along" (sp_along1 K) []) : FnOk P w K mg base CX0 5 f fd ["rounds"] (sp_wantrounds K) := by
  refine dfOk F sc_wantrounds (fun vs H Q E h => ?_) (fun cdv A outer s H vs Q E hr h => ?_)
  · obtain ⟨v, brs, rfl, _⟩ := h
    rfl
  · obtain ⟨v, brs, rfl, hd, hok, q⟩ := h
    obtain ⟨a, xs, rfl, hs, ha⟩ := hd.tupE
    have hlen : xs.length = brs.length := by rw [ha.len]; simp [pPass]
    have l1 : 1 ≤ brs.length := by have := hok.1; simpa using this
    have l2 : brs.length ≤ 3 := by have := hok.2.1; simpa using this
    have item : ∀ {i : Nat} {x : V}, xs[i]? = some x → ∃ b r, Dp K H x (dSeq b (r.map pCut)) ∧ Pm.RndOk r := by
      intro i x hx
      obtain ⟨d, hd1, hd2⟩ := ha.get hx
      unfold pPass at hd1
      rw [List.getElem?_map] at hd1
      obtain ⟨c, hc1, rfl⟩ := Option.map_eq_some_iff.mp hd1
      exact ⟨c.1, c.2, hd2, hok.2.2.1 _ (List.mem_map.mpr ⟨c, List.mem_of_getElem? hc1, rfl⟩)⟩
    refine ⟨_, (pss_cons (ps_if (pt_cmpR op_eq (pe_callB call_len_seq' (by rfl) B.len bt_len (pa_cons (pv 0) pa_nil)) pe_int (nomark _))
  pss_never
  pss_nil)
  (pss_cons (ps_for PassesOwn.never rfl (pi_enumA (by rfl) B.enumerate (pa_cons (pv 0) pa_nil)) (pg_tup' 2 (pgs_cons (pg_name (i := 1) sc_wantrounds.nd rfl (Or.inl rfl)) (pgs_cons (pg_name (i := 2) sc_wantrounds.nd rfl (Or.inl rfl)) pgs_nil)))
  (pss_one (ps_if (pt_not (pt_val (pe_ca cR hr (by decide) (by rfl) (pa_cons (pv 2) pa_nil))))
  pss_never
  pss_nil)))
  (pss_cons (ps_if (pt_cmpR op_gt (pe_callB call_len_seq' (by rfl) B.len bt_len (pa_cons (pv 0) pa_nil)) (pe_ccon G.mr (by rfl) G.mgC) (nomark _))
  pss_never
  pss_nil)
  (pss_one (ps_if (pt_val (pe_callB (cr_any rfl) (by rfl) B.any bt_any (pa_cons (pe_lc (own := [("cuts", 2)]) (by rfl) sc_wantrounds.nd (pi_seq (pv 0)) (blkOk_by (own := [("cuts", 2)]) (N := ["rounds", "position", "cuts"]) (sc := defScope s_wantrounds) (by decide +kernel)) (fun _ _ _ _ _ => (pg_name (i := 2) sc_wantrounds.nd rfl (Or.inl rfl))) (fun _ _ _ _ _ => pts_nil) (fun _ _ _ _ _ => (pe_cmpR op_gt (pe_op op_mul (pe_ca c1 hr (by decide) (by rfl) (pa_cons (pv 2) (pa_cons (pe_globS G.east (by rfl)) pa_nil))) (pe_ca c1 hr (by decide) (by rfl) (pa_cons (pv 2) (pa_cons (pe_globS G.north (by rfl)) pa_nil)))) (pe_ccon G.ms (by rfl) G.mgC) (nomark _)))) pa_nil)))
  pss_never
  pss_nil))))), ?_⟩
    refine ⟨_, rfl, a, _, rfl, .inr hs, rfl, _, rfl, ?_⟩
    rw [decide_eq_false (fun z => by have := V.int.inj z; omega)]
    refine iteF ?_
    refine ⟨_, rfl, false, a, xs, rfl, hs, for_it walk_enumK (fun i σ H' => Same H H' ∧ ∃ v1 v2, σ = [some (.ref a), v1, v2]) ⟨Same.refl H, _, _, rfl⟩ (fun i σ H' _ h => Same.tup h.1 hs) ?_ ?_⟩
    · rintro i x σ H1 H2 hi ⟨s1, v1, v2, rfl⟩ ⟨T, y, z, rfl, hT, rfl, hy, hz⟩
      obtain rfl := Option.some.inj hy
      obtain ⟨b, r, hdz, hrz⟩ := item hz
      have sT := fun o => same_new (o := o) hT
      refine ⟨T, _, rfl, SqT.of upd_same, rfl, _, _, rfl, _, _, rfl, rfl, ?_⟩
      refine ⟨_, rfl, z, b, r, rfl, (hdz.up s1).up (sT _), hrz, fun H3 s3 => ⟨_, rfl, ?_⟩⟩
      exact iteF ⟨s1.trans ((sT _).trans s3), _, _, rfl⟩
    · rintro σ H1 ⟨s1, v1, v2, rfl⟩
      have hs1 := Same.tup s1 hs
      refine ⟨_, rfl, a, _, rfl, .inr hs1, _, _, rfl, rfl, _, rfl, ?_⟩
      rw [decide_eq_false (show ¬ ((3 : Int) < (xs.length : Nat)) by omega)]
      refine iteF ?_
      refine ⟨_, rfl, false, a, xs, rfl, hs1, fun D hD => lc_nl (K := K) walk_K (List.replicate xs.length (.bool false)) (by simp) (by omega) (NLs.of fun d hd => by rw [List.eq_of_mem_replicate hd]; rfl) hD (fun H' s' => Same.sqk (b := false) s' hs1) ?_ ?_ gName_mono⟩
      · rintro i e x H2 _ Q2 hi he s2 ⟨rfl, hx⟩ hq
        refine ⟨rfl, ?_⟩
        obtain ⟨b, r, hdz, hrz⟩ := item hx
        obtain rfl : e = .bool false := List.eq_of_mem_replicate (List.mem_of_getElem? he)
        have w0 := wid_le hrz r.length 0 (by decide)
        have w1 := wid_le hrz r.length 1 (by decide)
        rw [List.take_length] at w0 w1
        refine ⟨_, rfl, x, b, r, 0, rfl, by decide, (hdz.up s1).up s2, hrz, _, rfl, x, b, r, 1, rfl, by decide, (hdz.up s1).up s2, hrz, _, _, rfl, rfl, .inl ⟨by omega, by omega⟩, _, _, rfl, rfl, ?_⟩
        have e : ¬ ((32 : Int) < (Pm.wid r 0 : Int) * (Pm.wid r 1 : Int)) := by
          have := Pm.size_wid hrz.2.2.1
          have := hrz.2.2.2
          rw [← Int.natCast_mul]
          omega
        show Q2 (.bl (decide ((32 : Int) < (Pm.wid r 0 : Int) * (Pm.wid r 1 : Int)))) _
        rw [decide_eq_false e]
        exact hq _ _ (Same.refl _) (.bl false)
      · rintro H2 ys s2 eD hall
        have hys : ys = (List.replicate xs.length false).map V.bl := DpAll.boolsE (by rw [List.map_replicate]; exact hall)
        refine ⟨D, List.replicate xs.length false, rfl, SqL.of (by rw [eD, hys]), _, rfl, ?_⟩
        have e : (List.replicate xs.length false).any id = false := by simp
        rw [e]
        exact iteF (q _ (s1.trans s2))
/-! along, place_in -/
def pRnd (r : List Pm.Cut) : PyData := .list (r.map pCut)
/-! Plan.product_of -/
def pParts (rs : List (List Pm.Cut)) : PyData := .list (rs.map fun r => .tuple [.int (Pm.wid r 0), .int (Pm.wid r 1)])
def pRds (rs : List (List Pm.Cut)) : PyData := .list (rs.map pRnd)
theorem pair_at {H : Hp} {v : V} {i j : Int} (h : Dp K H v (.tuple [.int i, .int j])) : ∃ a, v = .ref a ∧ SqT K H a [.int i, .int j] := Dp.tupIE (is := [i, j]) h
def sp_prod (K : PySem.W.Frag) (C : Addr) : Sp := fun vs H Q _ => ∃ (a dx : Addr) (fs : List (Str × V)) (Pt : V) (rs : List (List Pm.Cut)) (m : Nat), vs = [.ref a, .int m] ∧ m < 1000000 ∧ H a = some (.ins C dx fs) ∧ fs.lookup ("own_parts" : Str) = some Pt ∧ Dp K H Pt (pParts rs) ∧ Pm.RdsOk rs ∧
  ∀ t H', Same H H' → H' t = some (.tup [.int (Pm.cnt rs 0 m), .int (Pm.cnt rs 1 m)]) → Q (.ref t) H'
theorem c_prod {K : PySem.W.Frag} {C : Addr} {a dx : Addr} {fs : List (Str × V)} {Pt : V} {rs : List (List Pm.Cut)} {m : Nat} {H : Hp} {Q : VK} {E : XK} (h0 : m < 1000000) (h1 : H a = some (.ins C dx fs)) (h2 : fs.lookup ("own_parts" : Str) = some Pt) (h3 : Dp K H Pt (pParts rs)) (h4 : Pm.RdsOk rs) (q : ∀ t H', Same H H' → H' t = some (.tup [.int (Pm.cnt rs 0 m), .int (Pm.cnt rs 1 m)]) → Q (.ref t) H') : sp_prod K C [.ref a, .int m] H Q E := ⟨_, _, _, _, _, _, rfl, h0, h1, h2, h3, h4, q⟩
theorem ok_prod {f : Addr} {fd : FuncData} (F : Df K "product_of" "Plan.product_of" s_prod [] f fd) (B : Blt mg) (G : PlG K mg C AX) : FnOk P w K mg base CX0 1 f fd ["self", "many"] (sp_prod K C) := by
  refine dfOk F sc_prod (fun vs H Q E h => ?_) (fun cdv A outer s H vs Q E hr h => ?_)
  · obtain ⟨a, dx, fs, Pt, rs, m, rfl, _⟩ := h
    rfl
  · obtain ⟨a, dx, fs, Pt, rs, m, rfl, hm, ea, hl, hd, hok, q⟩ := h
    obtain ⟨b, xs, rfl, hs, ha⟩ := hd.lstE
    have hlen : xs.length = rs.length := by rw [ha.len, List.length_map]
    have l1 := hok.1
    refine ⟨_, (pss_cons (ps_asg (pe_tup (pa_cons pe_int (pa_cons pe_int pa_nil))) (pg_tup' 2 (pgs_cons (pg_name (i := 2) sc_prod.nd rfl (Or.inl rfl)) (pgs_cons (pg_name (i := 3) sc_prod.nd rfl (Or.inl rfl)) pgs_nil))))
  (pss_cons (ps_for PassesOwn.never rfl (pi_range1 (by rfl) B.range (pa_cons (pv 1) pa_nil)) (pg_name (i := 4) sc_prod.nd rfl (Or.inl rfl))
  (pss_cons (ps_set (i := 5) sc_prod.nd rfl (Or.inl rfl) (pe_ix ix_list' (pe_fld (pv 0) rfl) (pe_op op_mod (pv 4) (pe_callB call_len_seq' (by rfl) B.len bt_len (pa_cons (pe_fld (pv 0) rfl) pa_nil))) (fun _ _ => rfl)))
  (pss_one (ps_par (i := 2) (j := 3) (by rfl) sc_prod.nd rfl rfl (by decide) rfl rfl (pa_cons (pe_op op_mul (pv 2) (pe_ix ix_tup' (pv 5) pe_int (fun _ _ => rfl))) (pa_cons (pe_op op_mul (pv 3) (pe_ix ix_tup' (pv 5) pe_int (fun _ _ => rfl))) pa_nil)) (by rfl)))))
  (pss_one (ps_ret (pe_tup (pa_cons (pv 2) (pa_cons (pv 3) pa_nil))))))), ?_⟩
    refine ⟨by show 2 ≤ sizeLine; decide, fun l0 hl0 => ⟨l0, _, rfl, SqT.of upd_same, rfl, _, _, rfl, _, _, rfl, rfl, ?_⟩⟩
    have s0 := same_new (o := .tup [.int 1, .int 1]) hl0
    have ea := s0 _ _ ea
    have hs := s0.seq hs
    have ha := ha.up s0
    have q := fun t H' (s : Same _ H') => q t H' (s0.trans s)
    generalize upd H l0 (.tup [.int 1, .int 1]) = H at *
    refine ⟨_, rfl, m, rfl, by omega, by omega, for_range (lo := 0) (n := m) (fun i σ H' => H' = H ∧ ∃ v1 v2, σ = [some (.ref a), some (.int m), some (.int (Pm.cnt rs 0 i)), some (.int (Pm.cnt rs 1 i)), v1, v2]) ⟨rfl, _, _, rfl⟩ ?_ ?_⟩
    · rintro i σ H' hi ⟨rfl, v1, v2, rfl⟩
      rw [show (0 : Int) + (i : Int) = (i : Int) by omega]
      obtain ⟨x, hx, hdx⟩ := ha.got (i := i % rs.length) (by rw [List.getElem?_map, Pm.rnd_get l1 i]; rfl)
      obtain ⟨t, rfl, ht⟩ := pair_at hdx
      have w := hok.W32 i
      refine ⟨_, rfl, a, C, dx, fs, _, rfl, ea, G.I.cl, G.nP, hl, _, rfl, _, rfl, a, C, dx, fs, _, rfl, ea, G.I.cl, G.nP, hl, b, _, rfl, .inl hs, _, _, rfl, rfl, by show (0 : Int) < (xs.length : Nat); omega, ?_⟩
      refine ⟨b, xs, _, .ref t, rfl, rfl, hs, ?_, ?_⟩
      · show atI xs ((i : Int) % ((xs.length : Nat) : Int)) = _
        rw [hlen, ← Int.natCast_emod]
        exact atI_nat hx
      refine ⟨_, rfl, _, rfl, t, _, _, _, rfl, rfl, ht, rfl, _, _, rfl, rfl, .inr ⟨?_, ?_⟩, ?_⟩
      · have : (0 : Int) ≤ (Pm.wid (Pm.rnd rs i) 0 : Nat) := by omega
        omega
      · have : (Pm.wid (Pm.rnd rs i) 0 : Nat) ≤ 32 := w.1
        omega
      refine ⟨_, rfl, _, rfl, t, _, _, _, rfl, rfl, ht, rfl, _, _, rfl, rfl, .inr ⟨?_, ?_⟩, ?_⟩
      · have : (0 : Int) ≤ (Pm.wid (Pm.rnd rs i) 1 : Nat) := by omega
        omega
      · have : (Pm.wid (Pm.rnd rs i) 1 : Nat) ≤ 32 := w.2
        omega
      refine ⟨_, _, rfl, rfl, some (.int i), some (.ref t), ?_⟩
      simp only [Pm.cnt, Pm.W, Int.natCast_mul]
      rfl
    · rintro σ H' ⟨rfl, v1, v2, rfl⟩
      refine ⟨_, rfl, _, rfl, by show 2 ≤ sizeLine; decide, fun t ht => ?_⟩
      exact q t _ (same_new ht) upd_same
end
end T
set_option Elab.async false
set_option maxRecDepth 100000
set_option maxHeartbeats 4000000
namespace T
open PySem L2 Mv
section
variable {P : Program} {w : World} {K : PySem.W.Frag} {mg : Str → Option Value} {base : Heap} {C AX : Addr}
/-- a Plan of the rounds rs -/
def plF (R Pt : V) (g : Int) : List (Str × V) := [("own_rounds", R), ("own_parts", Pt), ("own_growth", .int g)]
structure PlanAt (K : PySem.W.Frag) (C : Addr) (H : Hp) (v : V) (rs : List (List Pm.Cut)) : Prop where
  ex : ∃ a dx R Pt, v = .ref a ∧ H a = some (.ins C dx (plF R Pt (Pm.cnt rs 0 rs.length))) ∧ Dp K H R (pRds rs) ∧ Dp K H Pt (pParts rs)
  ok : Pm.RdsOk rs
theorem PlanAt.same {H H' : Hp} {v : V} {rs : List (List Pm.Cut)} (h : PlanAt K C H v rs) (s : Same H H') : PlanAt K C H' v rs := by
  obtain ⟨a, dx, R, Pt, e, ea, h1, h2⟩ := h.ex
  exact ⟨⟨a, dx, R, Pt, e, s _ _ ea, h1.up s, h2.up s⟩, h.ok⟩
/-- all is kept but the object at x -/
def sp_init (K : PySem.W.Frag) (C : Addr) : Sp := fun vs H Q _ => ∃ (x dx : Addr) (v : V) (brs : List (Bool × List Pm.Cut)), vs = [.ref x, v] ∧ H x = some (.ins C dx []) ∧ Dp K H v (.tuple (pPass brs)) ∧ Pm.RdsOk (brs.map Prod.snd) ∧
  ∀ H', Bu x H H' → PlanAt K C H' (.ref x) (brs.map Prod.snd) → Q .non H'
theorem c_init {K : PySem.W.Frag} {C : Addr} {x dx : Addr} {v : V} {brs : List (Bool × List Pm.Cut)} {H : Hp} {Q : VK} {E : XK} (h0 : H x = some (.ins C dx [])) (h1 : Dp K H v (.tuple (pPass brs))) (h2 : Pm.RdsOk (brs.map Prod.snd)) (q : ∀ H', Bu x H H' → PlanAt K C H' (.ref x) (brs.map Prod.snd) → Q .non H') : sp_init K C [.ref x, v] H Q E := ⟨_, _, _, _, rfl, h0, h1, h2, q⟩
theorem Bu.insK {x : Addr} {H H' : Hp} {dx : Addr} {fs : List (Str × V)} (b : Bu x H H') (hx : H x = some (.ins C dx fs)) {a : Addr} {xs : List V} (h : SqL K H a xs) : SqL K H' a xs := by
  rcases h with (h | ⟨o, h⟩) | h
  · exact .inl (.inl (b a _ (fun z => by rw [z, hx] at h; cases h) h))
  · exact .inl (.inr ⟨o, b a _ (fun z => by rw [z, hx] at h; cases h) h⟩)
  · exact .inr h
theorem Bu.insT {x : Addr} {H H' : Hp} {dx : Addr} {fs : List (Str × V)} (b : Bu x H H') (hx : H x = some (.ins C dx fs)) {a : Addr} {xs : List V} (h : SqT K H a xs) : SqT K H' a xs := by
  rcases h with (h | ⟨o, h⟩) | h
  · exact .inl (.inl (b a _ (fun z => by rw [z, hx] at h; cases h) h))
  · exact .inl (.inr ⟨o, b a _ (fun z => by rw [z, hx] at h; cases h) h⟩)
  · exact .inr h
mutual
theorem Dp.ins' {x : Addr} {H H' : Hp} {dx : Addr} {fs : List (Str × V)} (b : Bu x H H') (hx : H x = some (.ins C dx fs)) : ∀ (d : PyData) (v : V), Dp K H v d → Dp K H' v d
  | .none, _, h => by cases h; exact .non
  | .bool b, _, h => by cases h; exact .bl b
  | .int i, _, h => by cases h; exact .int i
  | .str x, _, h => by cases h; exact .str x
  | .list ds, _, h => by
    cases h with
    | lst hs ha => exact .lst (Bu.insK b hx hs) (DpAll.ins' b hx ds _ ha)
  | .tuple ds, _, h => by
    cases h with
    | tup hs ha => exact .tup (Bu.insT b hx hs) (DpAll.ins' b hx ds _ ha)
  | .dict _, _, h => by cases h
theorem DpAll.ins' {x : Addr} {H H' : Hp} {dx : Addr} {fs : List (Str × V)} (b : Bu x H H') (hx : H x = some (.ins C dx fs)) : ∀ (ds : List PyData) (vs : List V), DpAll K H vs ds → DpAll K H' vs ds
  | [], _, h => by cases h; exact .nil
  | d :: ds, _, h => by
    cases h with
    | cons h1 h2 => exact .cons (Dp.ins' b hx d _ h1) (DpAll.ins' b hx ds _ h2)
end
theorem ok_init {f : Addr} {fd : FuncData} (F : Df K "__init__" "Plan.__init__" s_init [] f fd) (B : Blt mg) (G : PlG K mg C AX) (cWR : Ca P w K mg base 5 "want_rounds" (sp_wantrounds K) []) (c1 : Ca P w K mg base 1 "parts_along" (sp_along1 K) []) (cPr : Me P w K mg base 1 C "product_of" (sp_prod K C) []) :
    FnR P w K mg base CX0 6 f (fun vs H Q E => ∃ ws rest, vs = ws ++ rest ∧ ws.length = 1 ∧ rest.length ≤ sizeLine ∧ ∀ p, H p = Option.none → sp_init K C (ws ++ [V.ref p]) (upd H p (.tup rest)) Q E) := by
  refine dfStar (ps := ["self"]) (pv := "rounds") F sc_init (fun kV doc pm an cdv ct => StX.bind_star1 (B := fun us => bindArgs (PySem.W.fnOf "__init__" "Plan.__init__" (defArgs s_init) (defBody s_init) (defScope s_init) .none kV doc pm an cdv ct) ⟨us, []⟩) (fun a => rfl) (fun a r rs => rfl)) (fun cdv A outer s H vs Q E hr h => ?_)
  obtain ⟨x, dx, v, brs, rfl, ex, hd, hok, q⟩ := h
  obtain ⟨a, xs, rfl, hs, ha⟩ := hd.tupE
  have hlen : xs.length = brs.length := by rw [ha.len]; simp [pPass]
  have l1 : 1 ≤ brs.length := by have := hok.1; simpa using this
  have l2 : brs.length ≤ 3 := by have := hok.2.1; simpa using this
  obtain ⟨rs, ers⟩ : ∃ rs, brs.map Prod.snd = rs := ⟨_, rfl⟩
  have lrs : rs.length = brs.length := by rw [← ers]; simp
  rw [ers] at hok
  refine ⟨_, (pss_cons (ps_expr (pe_ca cWR hr (by decide) (by rfl) (pa_cons (pv 1) pa_nil)))
  (pss_cons (ps_fld (pv 0) (pe_lc (own := [("cuts", 2)]) (by rfl) sc_init.nd (pi_seq (pv 1)) (blkOk_by (own := [("cuts", 2)]) (N := ["self", "rounds", "cuts", "columns", "rows"]) (sc := defScope s_init) (by decide +kernel)) (fun _ _ _ _ _ => (pg_name (i := 2) sc_init.nd rfl (Or.inl rfl))) (fun _ _ _ _ _ => pts_nil) (fun _ _ _ _ _ => (pe_callTy call_list_of' (by rfl) B.list bt_list (pa_cons (pv 2) pa_nil)))) rfl)
  (pss_cons (ps_fld (pv 0) (pe_lc (own := [("cuts", 2)]) (by rfl) sc_init.nd (pi_list (pe_fld (pv 0) rfl)) (blkOk_by (own := [("cuts", 2)]) (N := ["self", "rounds", "cuts", "columns", "rows"]) (sc := defScope s_init) (by decide +kernel)) (fun _ _ _ _ _ => (pg_name (i := 2) sc_init.nd rfl (Or.inl rfl))) (fun _ _ _ _ _ => pts_nil) (fun _ _ _ _ _ => (pe_tup (pa_cons (pe_ca c1 hr (by decide) (by rfl) (pa_cons (pv 2) (pa_cons (pe_globS G.east (by rfl)) pa_nil))) (pa_cons (pe_ca c1 hr (by decide) (by rfl) (pa_cons (pv 2) (pa_cons (pe_globS G.north (by rfl)) pa_nil))) pa_nil))))) rfl)
  (pss_cons (ps_asg (pe_me cPr hr (by decide) (pv 0) (pa_cons (pe_callB call_len_seq' (by rfl) B.len bt_len (pa_cons (pv 1) pa_nil)) pa_nil)) (pg_tup' 2 (pgs_cons (pg_name (i := 3) sc_init.nd rfl (Or.inl rfl)) (pgs_cons (pg_name (i := 4) sc_init.nd rfl (Or.inl rfl)) pgs_nil))))
  (pss_cons (ps_if (pt_cmpR op_ne (pv 3) (pv 4) (nomark _))
  pss_never
  pss_nil)
  (pss_one (ps_fld (pv 0) (pv 3) rfl))))))), ?_⟩
  refine ⟨_, rfl, _, brs, rfl, hd, ers ▸ hok, fun H1 s1 => ?_⟩
  have hs1 := Same.tup s1 hs
  have ha1 := ha.up s1
  refine ⟨_, rfl, false, a, xs, rfl, hs1, fun D hD => lc_ll (K := K) walk_K (rs.map fun r => r.map pCut) (by simp; omega) (by omega) (fun e he => ?_) hD (fun H' s' => Same.sqk (b := false) s' hs1) ?_ ?_ gName_mono⟩
  · obtain ⟨r, _, rfl⟩ := List.mem_map.mp he
    exact NLs.map _ NL.pCut r
  · rintro i e y H2 _ Q2 hi he s2 ⟨rfl, hy⟩ hq
    refine ⟨rfl, ?_⟩
    obtain ⟨d, hd1, hd2⟩ := (ha1.up s2).get hy
    unfold pPass at hd1
    rw [List.getElem?_map] at hd1
    obtain ⟨c, hc1, rfl⟩ := Option.map_eq_some_iff.mp hd1
    have he' : e = c.2.map pCut := by
      rw [← ers, List.map_map, List.getElem?_map, hc1] at he
      exact (Option.some.inj he).symm
    subst he'
    obtain ⟨b, zs, rfl, hz, hza⟩ := hd2.seqE
    exact ⟨_, rfl, b, zs, rfl, sqK_or hz, fun l hl => hq l zs _ (same_new hl) hl upd_same (hza.up (same_new hl))⟩
  · rintro H2 ys s2 eD hall
    have ex2 := s2 _ _ (s1 _ _ ex)
    refine ⟨_, rfl, x, C, dx, [], rfl, ex2, G.I.cl, G.nR, by decide, ?_⟩
    have hR : Dp K H2 (.ref D) (pRds rs) := by
      refine .lst (SqL.of eD) ?_
      have : rs.map pRnd = (rs.map fun r => r.map pCut).map PyData.list := by rw [List.map_map]; rfl
      rw [this]
      exact hall
    have b3 : Bu x H2 (upd H2 x (.ins C dx [("own_rounds", .ref D)])) := Bu.set
    have hR3 := Dp.ins' b3 ex2 _ _ hR
    have hs3 := Bu.insT b3 ex2 (Same.tup s2 hs1)
    have bb : Bu x H (upd H2 x (.ins C dx [("own_rounds", .ref D)])) := (Bu.of (s1.trans s2) x).trans b3
    show tSeq _ _ _ _ (upd H2 x (.ins C dx [("own_rounds", .ref D)]))
    have ex3 : upd H2 x (.ins C dx [("own_rounds", .ref D)]) x = some (.ins C dx [("own_rounds", .ref D)]) := upd_same
    generalize upd H2 x (.ins C dx [("own_rounds", .ref D)]) = H3 at *
    obtain ⟨_, rsx, eD', hsR, haR⟩ := hR3.lstE
    cases eD'
    have hlR : rsx.length = rs.length := by rw [haR.len, List.length_map]
    refine ⟨_, rfl, x, C, dx, _, .ref D, rfl, ex3, G.I.cl, G.nR, rfl, D, rfl, ⟨_, hsR⟩, fun D2 hD2 => lc_nl (K := K) (walk_list (xs := rsx)) (rs.map fun r => .tuple [.int (Pm.wid r 0), .int (Pm.wid r 1)]) (by simp; omega) (by omega) (NLs.map _ (fun _ => rfl) rs) hD2 (fun H' s' => s'.seq hsR) ?_ ?_ gName_mono⟩
    · rintro i e y H4 _ Q2 hi he s4 ⟨rfl, hy⟩ hq
      refine ⟨rfl, ?_⟩
      obtain ⟨d, hd1, hd2⟩ := (haR.up s4).get hy
      rw [List.getElem?_map] at hd1 he
      obtain ⟨r, hr1, rfl⟩ := Option.map_eq_some_iff.mp hd1
      rw [hr1] at he
      obtain rfl := Option.some.inj he
      have hro := hok.2.2.1 r (List.mem_of_getElem? hr1)
      refine ⟨_, rfl, y, true, r, 0, rfl, by decide, hd2, hro, _, rfl, y, true, r, 1, rfl, by decide, hd2, hro, by show 2 ≤ sizeLine; decide, fun t ht => ?_⟩
      exact hq _ _ (same_new ht) (Dp.tupI (is := [_, _]) (SqT.of upd_same))
    · rintro H4 ys4 s4 eD4 hall4
      have ex4 := s4 _ _ ex3
      refine ⟨_, rfl, x, C, dx, _, rfl, ex4, G.I.cl, G.nP, by show 1 < 1000; decide, ?_⟩
      have hP4 : Dp K H4 (.ref D2) (pParts rs) := .lst (SqL.of eD4) hall4
      have b5 : Bu x H4 (upd H4 x (.ins C dx [("own_rounds", .ref D), ("own_parts", .ref D2)])) := Bu.set
      have hP5 := Dp.ins' b5 ex4 _ _ hP4
      have hR5 := Dp.ins' b5 ex4 _ _ (hR3.up s4)
      have hs5 := Bu.insT b5 ex4 (Same.tup s4 hs3)
      have bb5 := bb.trans ((Bu.of s4 x).trans b5)
      show tSeq _ _ _ _ (upd H4 x (.ins C dx [("own_rounds", .ref D), ("own_parts", .ref D2)]))
      have ex5 : upd H4 x (.ins C dx [("own_rounds", .ref D), ("own_parts", .ref D2)]) x = some (.ins C dx [("own_rounds", .ref D), ("own_parts", .ref D2)]) := upd_same
      generalize upd H4 x (.ins C dx [("own_rounds", .ref D), ("own_parts", .ref D2)]) = H5 at *
      refine ⟨_, rfl, x, dx, _, rfl, ex5, rfl, _, rfl, a, xs, rfl, .inr hs5, x, dx, _, .ref D2, rs, xs.length, rfl, by omega, ex5, rfl, hP5, hok, fun t H6 s6 et => ?_⟩
      refine ⟨t, _, rfl, SqT.of et, rfl, _, _, rfl, _, _, rfl, rfl, ?_⟩
      have bal := hok.bal
      rw [lrs, ← hlen] at bal
      refine ⟨_, rfl, _, rfl, rfl, _, rfl, ?_⟩
      rw [show (!decide (V.int (Pm.cnt rs 0 xs.length) = V.int (Pm.cnt rs 1 xs.length))) = false by rw [bal]; simp]
      refine iteF ?_
      have ex6 := s6 _ _ ex5
      refine ⟨_, rfl, _, rfl, x, C, dx, _, rfl, ex6, G.I.cl, G.nG, by show 2 < 1000; decide, ?_⟩
      have b7 : Bu x H6 (upd H6 x (.ins C dx (plF (.ref D) (.ref D2) (Pm.cnt rs 0 xs.length)))) := Bu.set
      refine q _ (bb5.trans ((Bu.of s6 x).trans b7)) ?_
      rw [ers]
      refine ⟨⟨x, dx, .ref D, .ref D2, rfl, ?_, Dp.ins' b7 ex6 _ _ (hR5.up s6), Dp.ins' b7 ex6 _ _ (hP5.up s6)⟩, hok⟩
      rw [lrs, ← hlen]
      exact upd_same
/-! making a plan -/
def spMk (K : PySem.W.Frag) (C : Addr) : Sp := fun vs H Q E => ∃ ws rest, vs = ws ++ rest ∧ ws.length = 1 ∧ rest.length ≤ sizeLine ∧ ∀ p, H p = Option.none → sp_init K C (ws ++ [V.ref p]) (upd H p (.tup rest)) Q E
theorem mk_plan {H : Hp} {vs : List V} {brs : List (Bool × List Pm.Cut)} {Q : VK} (ha : DpAll K H vs (pPass brs)) (ok : Pm.RdsOk (brs.map Prod.snd)) (q : ∀ u H', Same H H' → PlanAt K C H' u (brs.map Prod.snd) → Q u H') :
    ∀ x dx, H x = none → H dx = none → dx ≠ x → spMk K C (V.ref x :: vs) (upd (upd H dx (.own x)) x (.ins C dx [])) (fun v H2 => v = .non ∧ Q (.ref x) H2) E0 := by
  intro x dx hx hdx hne
  have hlen : vs.length ≤ 3 := by
    have := ok.2.1
    rw [ha.len]
    simpa [pPass] using this
  refine ⟨[.ref x], vs, rfl, rfl, by unfold sizeLine; omega, fun p hp => ?_⟩
  have s1 : Same H (upd (upd H dx (.own x)) x (.ins C dx [])) := same_make hx hdx hne
  have s2 : ∀ o, Same H (upd (upd (upd H dx (.own x)) x (.ins C dx [])) p o) := fun o => s1.trans (same_new hp)
  have hpx : x ≠ p := fun z => by rw [← z, upd_same] at hp; cases hp
  refine ⟨x, dx, .ref p, brs, rfl, by rw [upd_ne hpx, upd_same], .tup (SqT.of upd_same) (ha.up (s2 _)), ok, fun H' b pa => ⟨rfl, q _ _ (fun c o e => ?_) pa⟩⟩
  exact b c o (fun z => by rw [z, hx] at e; cases e) (s2 _ c o e)
end
end T
set_option Elab.async false
set_option maxRecDepth 100000
set_option maxHeartbeats 4000000
namespace T
open PySem L2 Mv
abbrev s_plen : Stmt := inClass (top 47) 16
theorem sc_plen : FnScope ["self"] ["self"] (defScope s_plen) := ⟨rfl, rfl, rfl, by decide +kernel, rfl, by decide +kernel, by decide +kernel⟩
abbrev s_peq : Stmt := inClass (top 47) 17
theorem sc_peq : FnScope ["self", "other"] ["self", "other"] (defScope s_peq) := ⟨rfl, rfl, rfl, by decide +kernel, rfl, by decide +kernel, by decide +kernel⟩
abbrev s_wantplan : Stmt := top 48
theorem sc_wantplan : FnScope ["value"] ["value"] (defScope s_wantplan) := ⟨rfl, rfl, rfl, by decide +kernel, rfl, by decide +kernel, by decide +kernel⟩
abbrev s_wantphase : Stmt := top 49
theorem sc_wantphase : FnScope ["plan", "value"] ["plan", "value"] (defScope s_wantphase) := ⟨rfl, rfl, rfl, by decide +kernel, rfl, by decide +kernel, by decide +kernel⟩
abbrev s_parts : Stmt := inClass (top 47) 11
theorem sc_parts : FnScope ["self", "phase"] ["self", "phase"] (defScope s_parts) := ⟨rfl, rfl, rfl, by decide +kernel, rfl, by decide +kernel, by decide +kernel⟩
abbrev s_signs : Stmt := inClass (top 47) 10
theorem sc_signs : FnScope ["self", "phase", "columns", "rows"] ["self", "phase"] (defScope s_signs) := ⟨rfl, rfl, rfl, by decide +kernel, rfl, by decide +kernel, by decide +kernel⟩
section
variable {P : Program} {w : World} {K : PySem.W.Frag} {mg : Str → Option Value} {base : Heap} {C AX : Addr}
/-! names -/
def dNm (ns : List Nat) : PyData := .tuple (ns.map fun (n : Nat) => PyData.int n)
def vNm (ns : List Nat) : List V := ns.map fun (n : Nat) => V.int n
theorem dNm_eq (ns : List Nat) : dNm ns = .tuple ((ns.map Int.ofNat).map .int) := by unfold dNm; rw [List.map_map]; rfl
theorem vNm_eq (ns : List Nat) : vNm ns = (ns.map Int.ofNat).map V.int := by unfold vNm; rw [List.map_map]; rfl
theorem nmE {H : Hp} {v : V} {ns : List Nat} (h : Dp K H v (dNm ns)) : ∃ a, v = .ref a ∧ SqT K H a (vNm ns) := by
  rw [dNm_eq] at h
  rw [vNm_eq]
  exact h.tupIE
theorem nmI {H : Hp} {a : Addr} {ns : List Nat} (h : SqT K H a (vNm ns)) : Dp K H (.ref a) (dNm ns) := by
  rw [vNm_eq] at h
  rw [dNm_eq]
  exact Dp.tupI h
theorem NL.nm (ns : List Nat) : NL (dNm ns) = true := by rw [dNm_eq]; exact NL.ints _
/-- a name of the rounds rs -/
def NmOk (rs : List (List Pm.Cut)) (ns : List Nat) : Prop := ∀ k, k < ns.length → ns.getD k 0 < Pm.S rs k
/-! __len__, __eq__ -/
def sp_plen (K : PySem.W.Frag) (C : Addr) : Sp := fun vs H Q _ => ∃ (v : V) (rs : List (List Pm.Cut)), vs = [v] ∧ PlanAt K C H v rs ∧ Q (.int (rs.length : Nat)) H
theorem c_plen {K : PySem.W.Frag} {C : Addr} {v : V} {rs : List (List Pm.Cut)} {H : Hp} {Q : VK} {E : XK} (h0 : PlanAt K C H v rs) (q : Q (.int (rs.length : Nat)) H) : sp_plen K C [v] H Q E := ⟨_, _, rfl, h0, q⟩
theorem ok_plen {f : Addr} {fd : FuncData} (F : Df K "__len__" "Plan.__len__" s_plen [] f fd) (B : Blt mg) (G : PlG K mg C AX) : FnOk P w K mg base CX0 1 f fd ["self"] (sp_plen K C) := by
  refine dfOk F sc_plen (fun vs H Q E h => ?_) (fun cdv A outer s H vs Q E hr h => ?_)
  · obtain ⟨v, rs, rfl, _⟩ := h
    rfl
  · obtain ⟨v, rs, rfl, hp, q⟩ := h
    obtain ⟨a, dx, R, Pt, rfl, ea, hR, hP⟩ := hp.ex
    obtain ⟨b, xs, rfl, hs, ha⟩ := hR.lstE
    have hlen : xs.length = rs.length := by rw [ha.len, List.length_map]
    refine ⟨_, (pss_one (ps_ret (pe_callB call_len_seq' (by rfl) B.len bt_len (pa_cons (pe_fld (pv 0) rfl) pa_nil)))), ?_⟩
    refine ⟨_, rfl, a, C, dx, _, _, rfl, ea, G.I.cl, G.nR, rfl, b, xs, rfl, .inl hs, ?_⟩
    rw [hlen]
    exact q
/-- what len(plan) reads -/
theorem len_plan {H : Hp} {v : V} {rs : List (List Pm.Cut)} {Q : VK} (hp : PlanAt K C H v rs) (q : Q (.int (rs.length : Nat)) H) : rLenO C (sp_plen K C) [v] H Q := by
  obtain ⟨a, dx, R, Pt, rfl, ea, _⟩ := hp.ex
  have := hp.ok.2.1
  exact ⟨a, dx, _, rfl, ea, _, rs, rfl, hp, _, rfl, by omega, by omega, q⟩
theorem eqv_cut {c d : Pm.Cut} (hc : Pm.CutOk c) (hd : Pm.CutOk d) : PyData.eqv (pCut c) (pCut d) = decide (c = d) := by
  obtain ⟨a, p⟩ := c
  obtain ⟨b, q⟩ := d
  have h1 : a = 0 ∨ a = 1 := by have := hc.1; simp at this; omega
  have h2 : b = 0 ∨ b = 1 := by have := hd.1; simp at this; omega
  have hn : ∀ x y : Nat, ((x : Int) == (y : Int)) = decide (x = y) := fun x y => by
    rw [Bool.eq_iff_iff]; simp only [beq_iff_eq, decide_eq_true_eq]; omega
  have ne1 : (("east" : Str) == ("north" : Str)) = false := by decide
  have ne2 : (("north" : Str) == ("east" : Str)) = false := by decide
  simp only [pCut, PyData.eqv, PyData.eqvAll, hn, Bool.and_true]
  rcases h1 with rfl | rfl <;> rcases h2 with rfl | rfl <;> simp [axn, ne1, ne2, Prod.ext_iff]
theorem eqv_map {α : Type} [DecidableEq α] (f : α → PyData) : ∀ (xs ys : List α), (∀ x ∈ xs, ∀ y ∈ ys, PyData.eqv (f x) (f y) = decide (x = y)) → PyData.eqvAll (xs.map f) (ys.map f) = decide (xs = ys)
  | [], [], _ => rfl
  | [], y :: ys, _ => by simp [PyData.eqvAll]
  | x :: xs, [], _ => by simp [PyData.eqvAll]
  | x :: xs, y :: ys, h => by
    simp only [List.map_cons, PyData.eqvAll]
    rw [h x (List.mem_cons_self ..) y (List.mem_cons_self ..), eqv_map f xs ys fun a ha b hb => h a (List.mem_cons_of_mem _ ha) b (List.mem_cons_of_mem _ hb)]
    rw [Bool.eq_iff_iff]
    simp
theorem eqv_rds {rs qs : List (List Pm.Cut)} (h1 : Pm.RdsOk rs) (h2 : Pm.RdsOk qs) : PyData.eqv (pRds rs) (pRds qs) = decide (rs = qs) := by
  unfold pRds
  rw [PyData.eqv]
  refine eqv_map pRnd rs qs fun r hr q hq => ?_
  unfold pRnd
  rw [PyData.eqv]
  exact eqv_map pCut r q fun c hc d hd => eqv_cut ((h1.2.2.1 r hr).2.2.1 c hc) ((h2.2.2.1 q hq).2.2.1 d hd)
theorem canLay_all {ds : List PyData} : (∀ d ∈ ds, d.canLay0 = true) → PyData.canLayAll0 ds = true := by
  induction ds with
  | nil => intro _; rfl
  | cons d ds ih =>
    intro h
    have h1 := h d (List.mem_cons_self ..)
    have h2 := ih fun x hx => h x (List.mem_cons_of_mem _ hx)
    simp [PyData.canLayAll0, h1, h2]
theorem depth_all {n : Nat} : ∀ {ds : List PyData}, (∀ d ∈ ds, d.depth ≤ n) → PyData.depthAll ds ≤ n
  | [], _ => by simp [PyData.depthAll]
  | d :: ds, h => by
    have h1 := h d (List.mem_cons_self ..)
    have h2 := depth_all (ds := ds) fun x hx => h x (List.mem_cons_of_mem _ hx)
    simp only [PyData.depthAll]
    omega
theorem shaped_cut (c : Pm.Cut) : (pCut c).canLay0 = true ∧ (pCut c).depth ≤ 1 := by
  obtain ⟨a, p⟩ := c
  constructor
  · unfold pCut axn
    simp only
    split
    · simp only [PyData.canLay0, PyData.canLayAll0, Bool.and_true]
      decide +kernel
    · simp only [PyData.canLay0, PyData.canLayAll0, Bool.and_true]
      decide +kernel
  · unfold pCut axn
    simp only
    split <;> simp [PyData.depth, PyData.depthAll]
theorem shaped_rds (rs : List (List Pm.Cut)) : SeqAt.shaped (pRds rs) = true := by
  have h1 : ∀ d ∈ rs.map pRnd, d.canLay0 = true ∧ d.depth ≤ 2 := fun d hd => by
    obtain ⟨r, _, rfl⟩ := List.mem_map.mp hd
    have h2 : ∀ e ∈ r.map pCut, e.canLay0 = true ∧ e.depth ≤ 1 := fun e he => by
      obtain ⟨c, _, rfl⟩ := List.mem_map.mp he
      exact shaped_cut c
    unfold pRnd
    constructor
    · rw [PyData.canLay0]
      exact canLay_all fun e he => (h2 e he).1
    · rw [PyData.depth]
      exact Nat.succ_le_succ (depth_all fun e he => (h2 e he).2)
  refine shaped_of ?_ ?_
  · unfold pRds
    rw [PyData.canLay0]
    exact canLay_all fun e he => (h1 e he).1
  · unfold pRds
    rw [PyData.depth]
    have := depth_all (n := 2) fun e he => (h1 e he).2
    omega
def sp_peq (K : PySem.W.Frag) (C : Addr) : Sp := fun vs H Q _ => ∃ (v u : V) (rs qs : List (List Pm.Cut)), vs = [v, u] ∧ PlanAt K C H v rs ∧ PlanAt K C H u qs ∧ Q (.bl (decide (rs = qs))) H
theorem c_peq {K : PySem.W.Frag} {C : Addr} {v u : V} {rs qs : List (List Pm.Cut)} {H : Hp} {Q : VK} {E : XK} (h0 : PlanAt K C H v rs) (h1 : PlanAt K C H u qs) (q : Q (.bl (decide (rs = qs))) H) : sp_peq K C [v, u] H Q E := ⟨_, _, _, _, rfl, h0, h1, q⟩
theorem ok_peq {f : Addr} {fd : FuncData} (F : Df K "__eq__" "Plan.__eq__" s_peq [] f fd) (B : Blt mg) (G : PlG K mg C AX) : FnOk P w K mg base CX0 1 f fd ["self", "other"] (sp_peq K C) := by
  refine dfOk F sc_peq (fun vs H Q E h => ?_) (fun cdv A outer s H vs Q E hr h => ?_)
  · obtain ⟨v, u, rs, qs, rfl, _⟩ := h
    rfl
  · obtain ⟨v, u, rs, qs, rfl, hp, hq, q⟩ := h
    obtain ⟨a, dx, R, Pt, rfl, ea, hR, hP⟩ := hp.ex
    obtain ⟨b, dy, R', Pt', rfl, eb, hR', hP'⟩ := hq.ex
    refine ⟨_, (pss_one (ps_ret (pe_and (pe_callB call_isi' (by rfl) B.isinstance bt_isinstance (pa_cons (pv 1) (pa_cons (pe_glob (by rfl) G.mgC (v := .ref C) rfl) pa_nil))) (pe_one (pe_cmpR (op_eqD' hr.units) (pe_fld (pv 0) rfl) (pe_fld (pv 1) rfl) (nomark _)))))), ?_⟩
    refine ⟨_, rfl, _, _, .ref C, .ref C, true, rfl, .own C, G.I.ty eb, G.I.me, true, rfl, iteT ?_⟩
    refine ⟨_, rfl, a, C, dx, _, _, rfl, ea, G.I.cl, G.nR, rfl, _, rfl, b, C, dy, _, _, rfl, eb, G.I.cl, G.nR, rfl, _, _, hR, hR', shaped_rds rs, shaped_rds qs, ?_⟩
    rw [eqv_rds hp.ok hq.ok]
    exact q
/-! want_plan, want_phase, parts, signs -/
def sp_wantplan (K : PySem.W.Frag) (C : Addr) : Sp := fun vs H Q _ => ∃ (v : V) (rs : List (List Pm.Cut)), vs = [v] ∧ PlanAt K C H v rs ∧ Q .non H
theorem c_wantplan {K : PySem.W.Frag} {C : Addr} {v : V} {rs : List (List Pm.Cut)} {H : Hp} {Q : VK} {E : XK} (h0 : PlanAt K C H v rs) (q : Q .non H) : sp_wantplan K C [v] H Q E := ⟨_, _, rfl, h0, q⟩
theorem ok_wantplan {f : Addr} {fd : FuncData} (F : Df K "want_plan" "want_plan" s_wantplan [] f fd) (B : Blt mg) (G : PlG K mg C AX) : FnOk P w K mg base CX0 1 f fd ["value"] (sp_wantplan K C) := by
  refine dfOk F sc_wantplan (fun vs H Q E h => ?_) (fun cdv A outer s H vs Q E hr h => ?_)
  · obtain ⟨v, rs, rfl, _⟩ := h
    rfl
  · obtain ⟨v, rs, rfl, hp, q⟩ := h
    obtain ⟨a, dx, R, Pt, rfl, ea, hR, hP⟩ := hp.ex
    refine ⟨_, (pss_one (ps_if (pt_not (pt_val (pe_callB call_isi' (by rfl) B.isinstance bt_isinstance (pa_cons (pv 0) (pa_cons (pe_glob (by rfl) G.mgC (v := .ref C) rfl) pa_nil)))))
  pss_never
  pss_nil)), ?_⟩
    refine ⟨_, rfl, _, _, .ref C, .ref C, true, rfl, .own C, G.I.ty ea, G.I.me, true, rfl, iteF q⟩
def sp_wantphase (K : PySem.W.Frag) (C : Addr) : Sp := fun vs H Q _ => ∃ (v : V) (rs : List (List Pm.Cut)) (ph : Nat), vs = [v, .int ph] ∧ PlanAt K C H v rs ∧ ph < rs.length ∧ Q .non H
theorem c_wantphase {K : PySem.W.Frag} {C : Addr} {v : V} {rs : List (List Pm.Cut)} {ph : Nat} {H : Hp} {Q : VK} {E : XK} (h0 : PlanAt K C H v rs) (h1 : ph < rs.length) (q : Q .non H) : sp_wantphase K C [v, .int ph] H Q E := ⟨_, _, _, rfl, h0, h1, q⟩
theorem ok_wantphase {f : Addr} {fd : FuncData} (F : Df K "want_phase" "want_phase" s_wantphase [] f fd) (B : Blt mg) (cCo : Ca P w K mg base 2 "is_count" (sp_count K) []) (cLen : Op2 P w K mg base 1 C "__len__" (sp_plen K C)) : FnOk P w K mg base CX0 3 f fd ["plan", "value"] (sp_wantphase K C) := by
  refine dfOk F sc_wantphase (fun vs H Q E h => ?_) (fun cdv A outer s H vs Q E hr h => ?_)
  · obtain ⟨v, rs, ph, rfl, _⟩ := h
    rfl
  · obtain ⟨v, rs, ph, rfl, hp, hph, q⟩ := h
    refine ⟨_, (pss_one (ps_if (PW.pt (pw_or (pt_not (pt_val (pe_ca cCo hr (by decide) (by rfl) (pa_cons (pv 1) pa_nil)))) (pw_or1 (pt_cmpR op_ge (pv 1) (pe_callB (call_lenO' cLen hr (by decide)) (by rfl) B.len bt_len (pa_cons (pv 0) pa_nil)) (nomark _)))))
  pss_never
  pss_nil)), ?_⟩
    refine ⟨_, rfl, tnil (count_int (by omega) ⟨_, rfl, iteF ?_⟩)⟩
    refine ⟨_, rfl, _, rfl, tnil (len_plan hp ⟨_, _, rfl, rfl, _, rfl, ?_⟩)⟩
    rw [decide_eq_false (show ¬ ((rs.length : Nat) : Int) ≤ (ph : Int) by omega)]
    exact iteF q
theorem rs_get {rs : List (List Pm.Cut)} {ph : Nat} (h : ph < rs.length) : rs[ph]? = some (Pm.rnd rs ph) := by
  have := Pm.rnd_get (by omega : 1 ≤ rs.length) ph
  rwa [Nat.mod_eq_of_lt h] at this
def sp_parts (K : PySem.W.Frag) (C : Addr) : Sp := fun vs H Q _ => ∃ (v : V) (rs : List (List Pm.Cut)) (ph : Nat), vs = [v, .int ph] ∧ PlanAt K C H v rs ∧ ph < rs.length ∧ ∀ t, SqT K H t [.int (Pm.W rs 0 ph), .int (Pm.W rs 1 ph)] → Q (.ref t) H
theorem c_parts {K : PySem.W.Frag} {C : Addr} {v : V} {rs : List (List Pm.Cut)} {ph : Nat} {H : Hp} {Q : VK} {E : XK} (h0 : PlanAt K C H v rs) (h1 : ph < rs.length) (q : ∀ t, SqT K H t [.int (Pm.W rs 0 ph), .int (Pm.W rs 1 ph)] → Q (.ref t) H) : sp_parts K C [v, .int ph] H Q E := ⟨_, _, _, rfl, h0, h1, q⟩
theorem ok_parts {f : Addr} {fd : FuncData} (F : Df K "parts" "Plan.parts" s_parts [] f fd) (G : PlG K mg C AX) (cWP : Ca P w K mg base 3 "want_phase" (sp_wantphase K C) []) : FnOk P w K mg base CX0 4 f fd ["self", "phase"] (sp_parts K C) := by
  refine dfOk F sc_parts (fun vs H Q E h => ?_) (fun cdv A outer s H vs Q E hr h => ?_)
  · obtain ⟨v, rs, ph, rfl, _⟩ := h
    rfl
  · obtain ⟨v, rs, ph, rfl, hp, hph, q⟩ := h
    obtain ⟨a, dx, R, Pt, rfl, ea, hR, hP⟩ := hp.ex
    obtain ⟨b, xs, rfl, hs, ha⟩ := hP.lstE
    obtain ⟨x, hx, hdx⟩ := ha.got (i := ph) (by rw [List.getElem?_map, rs_get hph]; rfl)
    obtain ⟨t, rfl, ht⟩ := pair_at hdx
    refine ⟨_, (pss_cons (ps_expr (pe_ca cWP hr (by decide) (by rfl) (pa_cons (pv 0) (pa_cons (pv 1) pa_nil))))
  (pss_one (ps_ret (pe_ix ix_list' (pe_fld (pv 0) rfl) (pv 1) (fun _ _ => rfl))))), ?_⟩
    refine ⟨_, rfl, _, rfl, _, rs, ph, rfl, hp, hph, ?_⟩
    exact ⟨_, rfl, a, C, dx, _, _, rfl, ea, G.I.cl, G.nP, rfl, _, rfl, b, xs, _, .ref t, rfl, rfl, hs, atI_nat hx, q t ht⟩
/-- what plan.m reads of the object -/
theorem plan_obj {H : Hp} {v : V} {rs : List (List Pm.Cut)} (hp : PlanAt K C H v rs) : ∃ a dx fs, v = .ref a ∧ H a = some (.ins C dx fs) ∧ ∀ m : Str, m ≠ "own_rounds" → m ≠ "own_parts" → m ≠ "own_growth" → fs.lookup m = none := by
  obtain ⟨a, dx, R, Pt, rfl, ea, _⟩ := hp.ex
  refine ⟨a, dx, _, rfl, ea, fun m h1 h2 h3 => ?_⟩
  have z : ∀ {x : Str}, m ≠ x → (m == x) = false := fun h => by simpa using h
  unfold plF
  simp only [List.lookup, z h1, z h2, z h3]
def sp_signs (K : PySem.W.Frag) (C : Addr) : Sp := fun vs H Q _ => ∃ (v : V) (rs : List (List Pm.Cut)) (ph : Nat), vs = [v, .int ph] ∧ PlanAt K C H v rs ∧ ph < rs.length ∧ Q (.int (Pm.S rs ph : Nat)) H
theorem c_signs {K : PySem.W.Frag} {C : Addr} {v : V} {rs : List (List Pm.Cut)} {ph : Nat} {H : Hp} {Q : VK} {E : XK} (h0 : PlanAt K C H v rs) (h1 : ph < rs.length) (q : Q (.int (Pm.S rs ph : Nat)) H) : sp_signs K C [v, .int ph] H Q E := ⟨_, _, _, rfl, h0, h1, q⟩
theorem ok_signs {f : Addr} {fd : FuncData} (F : Df K "signs" "Plan.signs" s_signs [] f fd) (cPa : Me P w K mg base 4 C "parts" (sp_parts K C) []) : FnOk P w K mg base CX0 5 f fd ["self", "phase"] (sp_signs K C) := by
  refine dfOk F sc_signs (fun vs H Q E h => ?_) (fun cdv A outer s H vs Q E hr h => ?_)
  · obtain ⟨v, rs, ph, rfl, _⟩ := h
    rfl
  · obtain ⟨v, rs, ph, rfl, hp, hph, q⟩ := h
    obtain ⟨a, dx, fs, rfl, ea, hl⟩ := plan_obj hp
    refine ⟨_, (pss_cons (ps_asg (pe_me cPa hr (by decide) (pv 0) (pa_cons (pv 1) pa_nil)) (pg_tup' 2 (pgs_cons (pg_name (i := 2) sc_signs.nd rfl (Or.inl rfl)) (pgs_cons (pg_name (i := 3) sc_signs.nd rfl (Or.inl rfl)) pgs_nil))))
  (pss_one (ps_ret (pe_op op_mul (pv 2) (pv 3))))), ?_⟩
    have w := hp.ok.W32 ph
    refine ⟨_, rfl, a, dx, fs, rfl, ea, hl _ (by decide) (by decide) (by decide), _, rfl, _, rs, ph, rfl, hp, hph, fun t ht => ?_⟩
    refine ⟨t, _, rfl, ht, rfl, _, _, rfl, _, _, rfl, rfl, ?_⟩
    refine ⟨_, rfl, _, rfl, _, _, rfl, rfl, .inl ⟨by omega, by omega⟩, ?_⟩
    rw [hp.ok.SW ph, Int.natCast_mul] at q
    exact q
/-! phase_at, pair_of -/
theorem rnd_mod {rs : List (List Pm.Cut)} (k : Nat) : Pm.rnd rs (k % rs.length) = Pm.rnd rs k := by
  unfold Pm.rnd
  rw [Nat.mod_mod]
end
end T
set_option Elab.async false
set_option maxRecDepth 100000
set_option maxHeartbeats 4000000
namespace Mv
open PySem PySem.Spec PyProof.Rows L2
/-- C(*e), C a class with a positional promise -/
def tMakeS (K : PySem.W.Frag) (C : Addr) (sp : Sp) (te : TE) : TE := fun σ H Q => te σ H fun y H1 => ∃ a xs, y = V.ref a ∧ (SqT K H1 a xs ∨ SqL K H1 a xs) ∧ ∀ x dx, H1 x = Option.none → H1 dx = Option.none → dx ≠ x →
  sp (V.ref x :: xs) (upd (upd H1 dx (.own x)) x (.ins C dx [])) (fun v H2 => v = .non ∧ Q (.ref x) H2) E0
section
variable {X : Cx} {k j : Nat} {C : Addr} {x : Str} {sp : Sp} {p pos sp_ : Pos} {e : Expr} {te : TE}
theorem pe_marS (c : MaR X.prog X.w X.K X.mg X.base k x C sp) (hr : Room j X.A) (hk : k + 1 ≤ j) (hg : Gl X x) (he : PE X e te) (hd : (x == ("__debug__" : Str)) = false := by decide)
    (hst : starEach [.Starred e sp_] X.env = [(true, eval e X.env)] := by rfl) :
    PE X (.Call (.Name x p) [.Starred e sp_] [] pos) (tMakeS X.K C sp te) := by
  obtain ⟨f, M, F, hm⟩ := c.ex
  refine ⟨fun pins s σ H Q I h => ?_⟩
  refine wpAny_Call_Name_kw (ld_glob I hg hm ?_ hd)
  refine PySem.W.callWith_S (h₀ := X.base) I.ok.mod.kin M.kp (thn (he.run pins s σ H _ I h) fun v s1 ⟨y, H1, I1, ry, a, xs, ey, hxs, q⟩ => ?_) hst
  subst ey
  obtain rfl : v = Value.ref a := ry
  exact StX.star_any I1 hxs fun us s2 I2 rv => ⟨I2.kIn, StX.run_makeR M F (hr.mono hk) pass0 I2 rv q⟩
end
end Mv
set_option Elab.async false
set_option maxRecDepth 100000
set_option maxHeartbeats 4000000
namespace HT
open PySem PySem.Spec PyProof.Rows
section
variable {prog : Program} {w : World} {A : Around} {E : Value → Shared → Prop} {s : Shared}
/-- t[::-1] of a tuple -/
theorem getItem_tuple_rev {t sl : Addr} {items : Array Value} {vl vu vs : Value} {Q : Value → Shared → Prop} (ht : IsTup s.heap t items) (hs : s.heap.IsSliceOf sl vl vu vs) (pl : IsPart vl none) (pu : IsPart vu none) (ps : IsPart vs (some (-1)))
    (h : Q (.ref s.heap.objs.size) { s with heap := s.heap.push { cls := .type "tuple", data := .seq items.toList.reverse.toArray } })
    (hsz : items.size ≤ sizeLine) : wpAny (model prog w) A (getItem (.ref t) (.ref sl)) Q E s := by
  have htake : sizeOk (.seq items.toList.reverse.toArray) := by
    show items.toList.reverse.toArray.size ≤ sizeLine
    simpa using hsz
  obtain ⟨os, hos, hcs, hds⟩ := id hs
  have hTs : s.TypeIs (.ref sl) "slice" := ⟨os, hos, hcs⟩
  unfold getItem
  try with_reducible refine wpAny_holding ?_
  first | refine wpAny_bind (wpAny_pure ?_) | skip
  refine wpAny_bind (wpAny_sequenceKey ht.typeIs (by decide) ?_)
  refine wpAny_bind (wpAny_callSpecial?_slot (name := Str.ofString "__getitem__") ht.typeIs PyProof.Rows.slot_tuple_getitem
    (wpAny_call_entry PyProof.Rows.slot_tuple_getitem ht.typeIs entry_tuple_getitem ?_ (args_tuple_getitem _ _)))
  show wpAny _ _ (Builtin.Tuple.tupleItemsOf (.ref t) >>= _) _ _ s
  refine wpAny_bind (tupleItemsOf_ ht ?_)
  refine wpAny_bind (wpAny_typeOf hTs ?_)
  rw [if_pos (by decide)]
  have ap : ∀ {Q : Int × Int × Nat → Shared → Prop} {E : Value → Shared → Prop} {A : Around}, Q (((items.size : Nat) : Int) - 1, -1, items.size) s → wpAny (model prog w) A (Builtin.Slice.sliceApplied (.ref sl) (pure (items.size : Int))) Q E s := by
    intro Q E A h
    unfold Builtin.Slice.sliceApplied Builtin.Slice.sliceFields
    refine wpAny_bind (wpAny_bind (wpAny_field hos hds (x := vl) rfl (wpAny_bind (wpAny_field hos hds (x := vu) rfl (wpAny_bind (wpAny_field hos hds (x := vs) rfl (wpAny_pure ?_)))))))
    refine wpAny_bind (slicePart_ ps ?_)
    show wpAny _ _ (if ((-1 : Int) == 0) = true then _ else _) _ _ s
    rw [if_neg (by decide)]
    refine wpAny_bind (slicePart_ pl (wpAny_bind (slicePart_ pu (wpAny_bind (wpAny_pure ?_)))))
    show wpAny _ _ (pure (((items.size : Nat) : Int) - 1, (-1 : Int), Builtin.Slice.slicePlaces (((items.size : Nat) : Int) - 1) (-1) (-1))) _ _ s
    have e : Builtin.Slice.slicePlaces (((items.size : Nat) : Int) - 1) (-1) (-1) = items.size := by
      unfold Builtin.Slice.slicePlaces
      rw [if_neg (by decide)]
      by_cases h0 : ((items.size : Nat) : Int) - 1 > -1
      · rw [if_pos h0, show (- -1 : Int) = 1 by decide, Int.ediv_one]
        omega
      · rw [if_neg h0]
        omega
    rw [e]
    exact wpAny_pure h
  refine wpAny_bind (ap ?_)
  show wpAny _ _ (if ((((items.size : Nat) : Int) - 1) == 0 && (-1 : Int) == 1 && items.size == items.size) = true then _ else _) _ _ s
  rw [if_neg (by simp)]
  have pk : ((List.range items.size).filterMap fun (k : Nat) => items[(((items.size : Nat) : Int) - 1 + (k : Int) * (-1)).toNat]?).toArray = items.toList.reverse.toArray := by
    have := PySem.W.krv_pick items
    unfold slicePick at this
    rw [← this, PySem.W.krv_bounds]
    show _ = ((sliceRange ((items.size : Int) - 1) (-1) (-1)).filterMap (items[·]?)).toArray
    rw [PySem.W.krv_sliceRange, List.filterMap_map]
    congr 1
    have cg : ∀ (l : List Nat) (f g : Nat → Option Value), (∀ k ∈ l, f k = g k) → l.filterMap f = l.filterMap g := by
      intro l f g h
      induction l with
      | nil => rfl
      | cons a l ih => rw [List.filterMap_cons, List.filterMap_cons, h a (List.mem_cons_self ..), ih fun k hk => h k (List.mem_cons_of_mem _ hk)]
    refine cg _ _ _ fun k hk => ?_
    have := List.mem_range.mp hk
    show items[_]? = items[items.size - 1 - k]?
    congr 1
    omega
  rw [pk]
  first
    | exact wpAny_bind (m := Builtin.Tuple.tupleExact _) (wpAny_newObj_type (wpAny_pure ⟨_, rfl, wpAny_pure h⟩) htake)
    | exact wpAny_bind (m := Builtin.Tuple.tupleExact _) (wpAny_newObj_type (wpAny_bind (wpAny_pure (wpAny_pure ⟨_, rfl, wpAny_pure h⟩))) htake)
    | exact wpAny_bind (wpAny_bind (m := Builtin.Tuple.tupleExact _) (wpAny_newObj_type (wpAny_pure (wpAny_pure ⟨_, rfl, wpAny_pure h⟩)) htake))
    | exact wpAny_bind (wpAny_bind (m := Builtin.Tuple.tupleExact _) (wpAny_newObj_type (wpAny_pure ⟨_, rfl, wpAny_pure h⟩) htake))
end
end HT
namespace Mv
open PySem PySem.Spec PyProof.Rows L2
/-- t[::-1] of a tuple: a new tuple -/
def tRevT (K : PySem.W.Frag) (te : TE) : TE := fun σ H Q => te σ H fun x H1 => ∃ a xs, x = .ref a ∧ SqT K H1 a xs ∧ ∀ p, H1 p = none → Q (.ref p) (upd H1 p (.tup xs.reverse))
theorem pe_revT {X : Cx} {e : Expr} {te : TE} {k : Nat} {p1 p2 p3 pos : Pos} (he : PE X e te) : PE X (.Subscript e (.Slice none none (some (.UnaryOp .USub (.Constant (.int 1) k p1) p2)) p3) pos) (tRevT X.K te) := by
  refine ⟨fun pins s σ H Q I h => ?_⟩
  refine Subscript_ (thn (he.run pins s σ H _ I h) fun v s1 ⟨x, H1, I1, r1, q1⟩ => ?_)
  obtain ⟨a, xs, ex, hx, q⟩ := q1
  subst ex
  cases r1
  have hst : PO X (some (.UnaryOp .USub (.Constant (.int 1) k p1) p2)) (tPart (tUn (rU fun i => .int (-i)) (tC (.int 1)))) := po_some (pe_un un_neg pe_int)
  refine wpAny_Slice (thn (po_none.run pins s1 σ H1 (fun o H2 => o = none ∧ H2 = H1) I1 ⟨rfl, rfl⟩) fun vl s2 ⟨l, H2, I2, pl, el, e2⟩ => ?_)
  subst el e2
  refine thn (po_none.run pins s2 σ H2 (fun o H3 => o = none ∧ H3 = H2) I2 ⟨rfl, rfl⟩) fun vu s3 ⟨u, H3, I3, pu, eu, e3⟩ => ?_
  subst eu e3
  refine thn (hst.run pins s3 σ H3 (fun o H4 => o = some (-1) ∧ H4 = H3) I3 ⟨1, rfl, -1, rfl, rfl, rfl⟩) fun vs s4 ⟨o, H4, I4, ps, eo, e4⟩ => ?_
  subst eo e4
  have I5 : Inv X pins σ H4 { s4 with heap := s4.heap.push { cls := .type "slice", data := .fields #[vl, vu, vs] } } := I4.kept (t' := s4.toks) fun b ob q => Heap.get?_push_of_some _ q
  obtain ⟨its, r, ht, hz⟩ := I5.tuple hx
  have hlen := r.length
  show wpAny (model X.prog X.w) X.A (subscriptTail e (.Slice none none (some (.UnaryOp .USub (.Constant (.int 1) k p1) p2)) p3) (.ref a) (.ref s4.heap.objs.size)) (EP X pins σ Q) X.xe { s4 with heap := s4.heap.push { cls := .type "slice", data := .fields #[vl, vu, vs] } }
  refine tail_any (ops := [.ref a, .ref s4.heap.objs.size]) ht.typeIs (PyProof.Rows.slot_tuple_getitem.lookup) ?_ (by with_unfolding_all rfl)
  refine HT.getItem_tuple_rev ht (Heap.IsSliceOf.new _ vl vu vs) pl pu ps ?_ (by rw [List.size_toArray]; omega)
  refine ⟨.ref _, _, I5.laid (t' := s4.toks) (o := .tup xs.reverse) (fun b ob q => Heap.get?_push_of_some _ q) (Nat.le_refl _) ?_, rfl, q _ (I5.hok.fresh (Nat.le_refl _))⟩
  refine ⟨by rw [List.length_reverse]; exact hz, _, r.reverse, ?_⟩
  exact IsTup.new _ _
end Mv
set_option Elab.async false
set_option maxRecDepth 100000
set_option maxHeartbeats 4000000
namespace Mv
open PySem PySem.Spec PyProof.Rows L2
/-- a def that an operator of the class at C finds -/
structure Op3 (P : Program) (w : World) (K : PySem.W.Frag) (mg : Str → Option Value) (base : Heap) (k : Nat) (C : Addr) (m : Str) (sp : Sp) : Prop where
  ex : ∃ (g : Addr) (fd : FuncData) (ps : List Str), FnOk P w K mg base CX0 k g fd ps sp ∧ Binds K fd ps [] ∧ PySem.W.findIn K (.ref C) m = some (some (.ref g)) ∧ PySem.W.isFn K (.ref g) = true ∧ PySem.W.fnIn K g = true
  sf : PySem.W.selfFirst K C = true
  ns : PySem.W.noSeq K C = true
section
variable {X : Cx} {k : Nat} {C : Addr} {sp : Sp} {m : Str}
/-- x op= y, x an instance with its own method -/
def rInst (C : Addr) (sp : Sp) : R2 := fun x y H Q => ∃ a dx fs, x = .ref a ∧ H a = some (.ins C dx fs) ∧ sp [x, y] H Q E0
theorem ip_own {op : Operator} (c : Op3 X.prog X.w X.K X.mg X.base k C m sp) (hr : Room k X.A) (hm : PySem.dunderI op.info.2 = m := by decide +kernel) : PIp X op (rInst C sp) := by
  obtain ⟨g, fd, ps, F, hb, hs, hf, _⟩ := c.ex
  intro pins s σ H x y v u Q I rx ry h
  obtain ⟨a, dx, fs, rfl, ea, q⟩ := h
  obtain rfl : v = Value.ref a := rx
  obtain ⟨mA, O, _⟩ := ins_get I.hok ea
  obtain ⟨od, J, _⟩ := O.look
  obtain ⟨mm, hF⟩ := I.fr
  subst hm
  refine PySem.W.ksp_inplace hF I.ok.mod.kin J c.sf hs hf ?_
  refine wpAny_mono (run_at (vs := [.ref a, y]) F hr I.ok.frames hb I (.cons rfl (.cons ry .nil)) q) (fun w s' z => ?_) fun _ _ x => x
  obtain ⟨z', H', I', rz, qz⟩ := z
  exact SlX.cmpback rz ⟨z', H', I', rz, qz⟩
/-- x op y of two instances of one class -/
def rBinO (K : PySem.W.Frag) (C : Addr) (sp : Sp) : R2 := fun x y H Q => ∃ a dx fs, x = .ref a ∧ H a = some (.ins C dx fs) ∧ TyX K H y (.ref C) ∧ sp [x, y] H Q E0
theorem op_binO {op : Operator} (c : Op3 X.prog X.w X.K X.mg X.base k C m sp) (hr : Room k X.A) (hm : PySem.dunder op.info.2 = m := by decide +kernel) : OpR X (binaryOp op) (rBinO X.K C sp) := by
  obtain ⟨g, fd, ps, F, hb, hs, hf, _⟩ := c.ex
  intro pins s σ H x y v u Q I rx ry h
  obtain ⟨a, dx, fs, rfl, ea, ty, q⟩ := h
  obtain rfl : v = Value.ref a := rx
  obtain ⟨mA, O, _⟩ := ins_get I.hok ea
  obtain ⟨od, J, _⟩ := O.look
  obtain ⟨mm, hF⟩ := I.fr
  obtain ⟨P, kx, hP, _⟩ := kit_of I ry ty
  subst hm
  refine PySem.W.binop_K hF I.ok.mod.kin J (kx.ty _ _ I.kIn hP) c.sf hs hf ?_
  refine wpAny_mono (run_at (vs := [.ref a, y]) F hr I.ok.frames hb I (.cons rfl (.cons ry .nil)) q) (fun w s' z => ?_) fun _ _ x => x
  obtain ⟨z', H', I', rz, qz⟩ := z
  exact SlX.cmpback rz ⟨z', H', I', rz, qz⟩
/-- x op i, i an int -/
def rBinI (C : Addr) (sp : Sp) : R2 := fun x y H Q => ∃ a dx fs i, x = .ref a ∧ y = .int i ∧ H a = some (.ins C dx fs) ∧ sp [x, y] H Q E0
theorem op_binI {op : Operator} {fo ro rc : Option Value} (c : Op3 X.prog X.w X.K X.mg X.base k C m sp) (hr : Room k X.A) (hr2 : PySem.W.findIn X.K (.ref C) (PySem.dunderR op.info.2) = some rc) (hp : rc = none ∨ ∃ g : Addr, rc = some (.ref g))
    (h1 : PySem.W.findIn X.K (.type "int") (PySem.dunder op.info.2) = some fo) (h2 : PySem.W.findIn X.K (.type "int") (PySem.dunderR op.info.2) = some ro) (hsub : PySem.W.subIn X.K (.type "int") (.ref C) = some false) (hm : PySem.dunder op.info.2 = m := by decide +kernel) : OpR X (binaryOp op) (rBinI C sp) := by
  obtain ⟨g, fd, ps, F, hb, hs, hf, _⟩ := c.ex
  intro pins s σ H x y v u Q I rx ry h
  obtain ⟨a, dx, fs, i, rfl, rfl, ea, q⟩ := h
  obtain rfl : v = Value.ref a := rx
  obtain ⟨mA, O, _⟩ := ins_get I.hok ea
  obtain ⟨od, J, _⟩ := O.look
  obtain ⟨mm, hF⟩ := I.fr
  have ry' := ry
  obtain ⟨tk, rfl⟩ := ry'
  subst hm
  refine PySem.W.ksp_binT (T := "int") hF I.ok.mod.kin J rfl c.sf hs hf hr2 hp h1 h2 hsub ?_
  refine wpAny_mono (run_at (vs := [.ref a, .int i]) F hr I.ok.frames hb I (.cons rfl (.cons ry .nil)) q) (fun w s' z => ?_) fun _ _ x => x
  obtain ⟨z', H', I', rz, qz⟩ := z
  exact SlX.cmpback rz ⟨z', H', I', rz, qz⟩
/-- - x -/
def rNegO (C : Addr) (sp : Sp) : V → Hp → VK → Prop := fun x H Q => ∃ a dx fs, x = .ref a ∧ H a = some (.ins C dx fs) ∧ sp [x] H Q E0
theorem un_negO (c : Op3 X.prog X.w X.K X.mg X.base k C "__neg__" sp) (hr : Room k X.A) : UnR X (unaryOp .USub) (rNegO C sp) := by
  obtain ⟨g, fd, ps, F, hb, hs, hf, _⟩ := c.ex
  intro pins s σ H x v Q I rx h
  obtain ⟨a, dx, fs, rfl, ea, q⟩ := h
  obtain rfl : v = Value.ref a := rx
  obtain ⟨mA, O, _⟩ := ins_get I.hok ea
  obtain ⟨od, J, _⟩ := O.look
  obtain ⟨mm, hF⟩ := I.fr
  refine PySem.W.ksp_neg hF I.ok.mod.kin J hs hf ?_
  exact run_at (vs := [.ref a]) F hr I.ok.frames hb I (.cons rfl .nil) q
/-- x[i] by an own __getitem__ -/
theorem pe_ixO {a b : Expr} {ta tb : TE} {pos : Pos} (c : Op3 X.prog X.w X.K X.mg X.base k C "__getitem__" sp) (hr : Room (k + 1) X.A) (ha : PE X a ta) (hb : PE X b tb)
    (hsl : ∀ (x : Addr) (u : Value), subscripted b true (.ref x) u = runValue (.builtin "lifetime.subscript" ⟨[.ref x, u], []⟩) := by intros; with_unfolding_all rfl) : PE X (.Subscript a b pos) (tOp (rInst C sp) ta tb) := by
  obtain ⟨g, fd, ps, F, hbn, hs, hf, hfn⟩ := c.ex
  refine ⟨fun pins s σ H Q I h => ?_⟩
  refine Subscript_ (binT ha hb I h fun v u s2 x y H2 I2 rx ry q => ?_)
  obtain ⟨p, dx, fs, rfl, ea, q⟩ := q
  obtain rfl : v = Value.ref p := rx
  obtain ⟨mA, O, _⟩ := ins_get I2.hok ea
  obtain ⟨od, J, _⟩ := O.look
  obtain ⟨mm, hF⟩ := I2.fr
  refine PySem.W.sub_K hF I2.ok.mod.kin J hs hfn hf ?_ (hsl p u)
  exact run_at (vs := [.ref p, y]) F hr.in1 I2.ok.frames hbn I2 (.cons rfl (.cons ry .nil)) q
/-- x[i] = v by an own __setitem__ -/
theorem set_own (c : Op3 X.prog X.w X.K X.mg X.base k C "__setitem__" sp) (hr : Room k X.A) : PSet X (fun o i v H Q => ∃ a dx fs, o = .ref a ∧ H a = some (.ins C dx fs) ∧ sp [o, i, v] H (fun _ H' => Q H') E0) := by
  obtain ⟨g, fd, ps, F, hb, hs, hf, _⟩ := c.ex
  intro pins s σ H o i v ov iv u Q I ro ri rv h
  obtain ⟨a, dx, fs, rfl, ea, q⟩ := h
  obtain rfl : ov = Value.ref a := ro
  obtain ⟨mA, O, _⟩ := ins_get I.hok ea
  obtain ⟨od, J, _⟩ := O.look
  obtain ⟨mm, hF⟩ := I.fr
  refine PySem.W.ksp_setItem hF I.ok.mod.kin J c.ns hs hf ?_
  refine wpAny_mono (run_at (vs := [.ref a, i, v]) F hr I.ok.frames hb I (.cons rfl (.cons ri (.cons rv .nil))) q) (fun w s' z => ?_) fun _ _ x => x
  obtain ⟨z', H', I', rz, qz⟩ := z
  exact ⟨H', I', qz⟩
end
section
variable {X : Cx} {P : Program} {w : World} {K : PySem.W.Frag} {mg : Str → Option Value} {base : Heap} {k j : Nat} {C : Addr} {sp : Sp} {m : Str}
theorem ip_own' {op : Operator} (c : Op3 P w K mg base k C m sp) (hr : Room j X.A) (hk : k ≤ j) (hm : PySem.dunderI op.info.2 = m := by decide +kernel) (e : Over X P w K mg base := by exact ⟨rfl, rfl, rfl, rfl, rfl⟩) : PIp X op (rInst C sp) := by
  obtain ⟨rfl, rfl, rfl, rfl, rfl⟩ := e
  exact ip_own c (hr.mono hk) hm
theorem op_binO' {op : Operator} (c : Op3 P w K mg base k C m sp) (hr : Room j X.A) (hk : k ≤ j) (hm : PySem.dunder op.info.2 = m := by decide +kernel) (e : Over X P w K mg base := by exact ⟨rfl, rfl, rfl, rfl, rfl⟩) : OpR X (binaryOp op) (rBinO K C sp) := by
  obtain ⟨rfl, rfl, rfl, rfl, rfl⟩ := e
  exact op_binO c (hr.mono hk) hm
theorem un_negO' (c : Op3 P w K mg base k C "__neg__" sp) (hr : Room j X.A) (hk : k ≤ j) (e : Over X P w K mg base := by exact ⟨rfl, rfl, rfl, rfl, rfl⟩) : UnR X (unaryOp .USub) (rNegO C sp) := by
  obtain ⟨rfl, rfl, rfl, rfl, rfl⟩ := e
  exact un_negO c (hr.mono hk)
theorem pe_ixO' {a b : Expr} {ta tb : TE} {pos : Pos} (c : Op3 P w K mg base k C "__getitem__" sp) (hr : Room j X.A) (hk : k + 1 ≤ j) (ha : PE X a ta) (hb : PE X b tb)
    (hsl : ∀ (x : Addr) (u : Value), subscripted b true (.ref x) u = runValue (.builtin "lifetime.subscript" ⟨[.ref x, u], []⟩) := by intros; with_unfolding_all rfl) (e : Over X P w K mg base := by exact ⟨rfl, rfl, rfl, rfl, rfl⟩) : PE X (.Subscript a b pos) (tOp (rInst C sp) ta tb) := by
  obtain ⟨rfl, rfl, rfl, rfl, rfl⟩ := e
  exact pe_ixO c (hr.mono hk) ha hb hsl
theorem set_own' (c : Op3 P w K mg base k C "__setitem__" sp) (hr : Room j X.A) (hk : k ≤ j) (e : Over X P w K mg base := by exact ⟨rfl, rfl, rfl, rfl, rfl⟩) : PSet X (fun o i v H Q => ∃ a dx fs, o = .ref a ∧ H a = some (.ins C dx fs) ∧ sp [o, i, v] H (fun _ H' => Q H') E0) := by
  obtain ⟨rfl, rfl, rfl, rfl, rfl⟩ := e
  exact set_own c (hr.mono hk)
end
end Mv
set_option Elab.async false
set_option maxRecDepth 100000
set_option maxHeartbeats 4000000
/-! Readings step by step, led by the goal's head: each go_x takes one combinator away. Facts are carried to a later heap by the up_x. -/
namespace Mv
open PySem PySem.Spec PyProof.Rows L2
section
variable {X : Cx} {K : PySem.W.Frag}
theorem op_catA' (e : X.K = K := by (conv => lhs; whnf)) : OpR X (binaryOp .Add) (rCatA K) := by
  subst e
  exact op_catA
theorem sl_list' (e : X.K = K := by (conv => lhs; whnf)) : SlR X (rSlL K) := by
  subst e
  exact sl_list
theorem pe_fld' {a : Expr} {f : Str} {pos : Pos} {ta : TE} (he : PE X a ta) (hb : attributeBase a f X.env (eval a X.env) = eval a X.env) (e : X.K = K := by (conv => lhs; whnf)) : PE X (.Attribute a f pos) (tFld K ta f) := by
  subst e
  exact pe_fld he hb
theorem cr_all' (hc : X.calm = true) (e : X.K = K := by (conv => lhs; whnf)) : CallR X (.builtin "all") (rAll K) := by
  subst e
  exact cr_all hc
theorem cr_any' (hc : X.calm = true) (e : X.K = K := by (conv => lhs; whnf)) : CallR X (.builtin "any") (rAny K) := by
  subst e
  exact cr_any hc
end
/-- a value that is a bool, an int -/
def AsB (Q : Bool → Hp → Prop) : VK := fun x H => ∃ c, x = .bl c ∧ Q c H
def AsI (Q : Int → Hp → Prop) : VK := fun x H => ∃ i, x = .int i ∧ Q i H
def Par2 (i j : Nat) (n : L2.St → Hp → Prop) (σ : L2.St) : List V → Hp → Prop := fun vs H1 => ∃ v w, vs = [v, w] ∧ n ((σ.set i (some v)).set j (some w)) H1
/-- a new tuple, a new list -/
def NewT (Q : VK) : List V → Hp → Prop := fun xs H1 => xs.length ≤ sizeLine ∧ ∀ p, H1 p = none → Q (.ref p) (upd H1 p (.tup xs))
def NewL (Q : VK) : List V → Hp → Prop := fun xs H1 => xs.length ≤ sizeLine ∧ ∀ p, H1 p = none → Q (.ref p) (upd H1 p (.lst xs))
def MeR (C : Addr) (m : Str) (sp : Sp) (dvs : List V) (E : XK) (t : TA) (σ : L2.St) (Q : VK) : VK := fun x H1 => ∃ a dx fs, x = .ref a ∧ H1 a = some (.ins C dx fs) ∧ fs.lookup m = none ∧ t σ H1 fun vs H2 => sp (x :: (vs ++ dvs)) H2 Q E
def PrR (C : Addr) (sp : Sp) (dvs : List V) (E : XK) (Q : VK) : VK := fun x H1 => ∃ a dx fs, x = .ref a ∧ H1 a = some (.ins C dx fs) ∧ sp (.ref a :: dvs) H1 Q E
def FlR (K : PySem.W.Frag) (f : Str) (Q : VK) : VK := fun x H1 => ∃ a C dx fs v, x = .ref a ∧ H1 a = some (.ins C dx fs) ∧ Cls K C ∧ NoAttr K C f ∧ fs.lookup f = some v ∧ Q v H1
theorem cutF (xs : List V) (k : Nat) : cutV xs (some (k : Int)) none = xs.drop k := by
  unfold cutV
  rw [HT.sIx_nat, HT.sIx_none]
  rcases Nat.le_total k xs.length with z | z
  · rw [Nat.min_eq_left z, List.take_of_length_le (by simp)]
  · rw [Nat.min_eq_right z, Nat.sub_self, List.take_zero, List.drop_eq_nil_of_le z]
theorem cutT (xs : List V) (k : Nat) : cutV xs none (some (k : Int)) = xs.take k := by
  unfold cutV
  rw [HT.sIx_nat, HT.sIx_none, List.drop_zero, Nat.sub_zero]
  rcases Nat.le_total k xs.length with z | z
  · rw [Nat.min_eq_left z]
  · rw [Nat.min_eq_right z, List.take_length, List.take_of_length_le z]
section
variable {K : PySem.W.Frag} {C : Addr} {f m : Str} {σ σ' : L2.St} {H H' : Hp} {Q : VK} {QB : Bool → Hp → Prop} {QL : List V → Hp → Prop} {QS n b c : L2.St → Hp → Prop} {v x y w : V} {vs xs ys dvs : List V} {ta tb tc te : TE} {t tr : TA} {tt tu : TT} {ts tu' : TS} {g : TG} {r r' : R2} {sp : Sp} {E : XK} {a p q : Addr}
theorem go_var {i : Nat} (h : σ[i]? = some (some v)) (q : Q v H) : tVar i σ H Q := ⟨v, h, q⟩
theorem go_start {N : List Str} {D : Ends} (e : start N vs = σ) (q : ts D σ H) : ts D (start N vs) H := e ▸ q
theorem go_c (q : Q v H) : tC v σ H Q := q
theorem go_cN {n : Nat} (q : Q (.int ((@OfNat.ofNat Nat n (instOfNatNat n) : Nat) : Int)) H) : tC (.int (@OfNat.ofNat Int n (@instOfNat n))) σ H Q := q
theorem go_op (q : ta σ H fun x H1 => tb σ H1 fun y H2 => r x y H2 Q) : tOp r ta tb σ H Q := q
theorem go_un {r : V → Hp → VK → Prop} (q : ta σ H fun x H1 => r x H1 Q) : tUn r ta σ H Q := q
theorem go_nil (q : QL [] H) : tNil σ H QL := q
theorem go_cons (q : ta σ H fun x H1 => tr σ H1 fun xs H2 => QL (x :: xs) H2) : tCons ta tr σ H QL := q
theorem go_cb {r : List V → Hp → VK → Prop} (q : t σ H fun vs H1 => r vs H1 Q) : tCB r t σ H Q := q
theorem go_call0 (q : t σ H fun vs H1 => sp vs H1 Q E) : tCall sp [] E t σ H Q := by
  show t σ H fun vs H1 => sp (vs ++ []) H1 Q E
  simpa only [List.append_nil] using q
theorem go_call (q : t σ H fun vs H1 => sp (vs ++ dvs) H1 Q E) : tCall sp dvs E t σ H Q := q
theorem go_kn {n m : Nat} {gV : List V → List V → List V} (q : t σ H fun zs H2 => zs.length = m ∧ sp (gV vs zs) H2 Q E0) : tCallKn n m sp gV vs t σ H Q := q
theorem go_meth (q : ta σ H (MeR C m sp dvs E t σ Q)) : tMeth C m sp dvs E ta t σ H Q := q
theorem go_prop (q : ta σ H (PrR C sp dvs E Q)) : tProp C sp dvs E ta σ H Q := q
theorem go_mer {dx : Addr} {fs : List (Str × V)} (h : H a = some (.ins C dx fs)) (hm : fs.lookup m = none) (q : t σ H fun vs H2 => sp (.ref a :: vs) H2 Q E) : MeR C m sp [] E t σ Q (.ref a) H := by
  refine ⟨a, dx, fs, rfl, h, hm, ?_⟩
  simpa only [List.append_nil] using q
theorem go_prr {dx : Addr} {fs : List (Str × V)} (h : H a = some (.ins C dx fs)) (q : sp [.ref a] H Q E) : PrR C sp [] E Q (.ref a) H := ⟨a, dx, fs, rfl, h, q⟩
theorem go_fld (q : ta σ H (FlR K f Q)) : tFld K ta f σ H Q := q
theorem go_flr {dx : Addr} {fs : List (Str × V)} (h : H a = some (.ins C dx fs)) (hc : Cls K C) (hn : NoAttr K C f) (hl : fs.lookup f = some v) (q : Q v H) : FlR K f Q (.ref a) H := ⟨a, C, dx, fs, v, rfl, h, hc, hn, hl, q⟩
theorem go_tup (q : t σ H (NewT Q)) : tTup t σ H Q := q
theorem go_lst (q : t σ H (NewL Q)) : tLst t σ H Q := q
theorem go_newt (hz : xs.length ≤ sizeLine) (q : ∀ p H', H p = none → Same H H' → H' p = some (.tup xs) → Q (.ref p) H') : NewT Q xs H := ⟨hz, fun p hp => q p _ hp (same_new hp) upd_same⟩
theorem go_newl (hz : xs.length ≤ sizeLine) (q : ∀ p H', H p = none → Same H H' → H' p = some (.lst xs) → Q (.ref p) H') : NewL Q xs H := ⟨hz, fun p hp => q p _ hp (same_new hp) upd_same⟩
theorem go_tb (q : ta σ H (AsB QB)) : tB ta σ H QB := q
theorem go_test (q : ta σ H (AsB QB)) : tTest ta σ H QB := q
theorem go_asb {k : Bool} (q : QB k H) : AsB QB (.bl k) H := ⟨k, rfl, q⟩
theorem go_asi {QI : Int → Hp → Prop} {i : Int} (q : QI i H) : AsI QI (.int i) H := ⟨i, rfl, q⟩
theorem go_and (q : tt σ H fun k H1 => if k = true then tu σ H1 QB else QB false H1) : tAnd tt tu σ H QB := q
theorem go_or (q : tt σ H fun k H1 => if k = true then QB true H1 else tu σ H1 QB) : tOr tt tu σ H QB := q
theorem go_not (q : tt σ H fun k H1 => QB (!k) H1) : tNot tt σ H QB := q
theorem go_andv (q : ta σ H (AsB fun k H1 => if k = true then tb σ H1 Q else Q (.bl false) H1)) : tAndV ta tb σ H Q := q
theorem go_orv (q : ta σ H (AsB fun k H1 => if k = true then Q (.bl true) H1 else tb σ H1 Q)) : tOrV ta tb σ H Q := q
theorem go_notv (q : ta σ H (AsB fun k H1 => Q (.bl (!k)) H1)) : tNotV ta σ H Q := q
theorem go_ife (q : tt σ H fun k H1 => if k = true then ta σ H1 Q else tb σ H1 Q) : tIf tt ta tb σ H Q := q
theorem go_chain (q : ta σ H fun x H1 => tb σ H1 fun y H2 => r x y H2 (AsB fun k H3 => if k = true then tc σ H3 fun w' H4 => r' y w' H4 Q else Q (.bl false) H3)) : tChain r r' ta tb tc σ H Q := q
theorem go_seq {rt : VK} (q : ts ⟨tu' ⟨n, rt, b, c⟩, rt, b, c⟩ σ H) : tSeq ts tu' ⟨n, rt, b, c⟩ σ H := q
theorem go_next {rt : VK} (q : n σ H) : tNext ⟨n, rt, b, c⟩ σ H := q
theorem go_drop {rt : VK} (q : te σ H fun _ H1 => n σ H1) : tDrop te ⟨n, rt, b, c⟩ σ H := q
theorem go_ret {rt : VK} (q : te σ H rt) : tRet te ⟨n, rt, b, c⟩ σ H := q
theorem go_retn {rt : VK} (q : rt .non H) : tRetN ⟨n, rt, b, c⟩ σ H := q
theorem go_ifs {D : Ends} (q : tt σ H fun k H1 => if k = true then ts D σ H1 else tu' D σ H1) : tIfS tt ts tu' D σ H := q
theorem go_asg {rt : VK} (q : te σ H fun x H1 => g x σ H1 n) : tAsg te g ⟨n, rt, b, c⟩ σ H := q
theorem go_gname {i : Nat} (e : σ.set i (some v) = σ') (q : QS σ' H) : gName i v σ H QS := by subst e; exact q
theorem go_par {i j : Nat} {rt : VK} (q : t σ H (Par2 i j n σ)) : tPar i j t ⟨n, rt, b, c⟩ σ H := q
theorem go_par2 {i j : Nat} (e : (σ.set i (some v)).set j (some w) = σ') (q : n σ' H) : Par2 i j n σ [v, w] H := by subst e; exact ⟨v, w, rfl, q⟩
theorem go_gtup {k : Nat} {gs : TGs} (h : SqT K H a xs) (hl : xs.length = k) (q : gs xs σ H QS) : gTup K k gs (.ref a) σ H QS := ⟨a, xs, rfl, h, hl, q⟩
theorem go_gnil (q : QS σ H) : gNil [] σ H QS := ⟨rfl, q⟩
theorem go_gcons {gs : TGs} (q : g v σ H fun σ' H' => gs vs σ' H' QS) : gCons g gs (v :: vs) σ H QS := ⟨v, vs, rfl, q⟩
/-! tests whose answer is known -/
theorem go_if1 {A B : Prop} (h : A) : if true = true then A else B := iteT h
theorem go_if0 {A B : Prop} (h : B) : if false = true then A else B := iteF h
theorem go_ift {c A B : Prop} [Decidable c] (hc : c) (h : A) : if decide c = true then A else B := by rw [decide_eq_true hc]; exact iteT h
theorem go_iff {c A B : Prop} [Decidable c] (hc : ¬ c) (h : B) : if decide c = true then A else B := by rw [decide_eq_false hc]; exact iteF h
theorem go_ifnt {c A B : Prop} [Decidable c] (hc : c) (h : B) : if (!decide c) = true then A else B := by rw [decide_eq_true hc]; exact iteF h
theorem go_ifnf {c A B : Prop} [Decidable c] (hc : ¬ c) (h : A) : if (!decide c) = true then A else B := by rw [decide_eq_false hc]; exact iteT h
theorem go_ifn1 {A B : Prop} (h : B) : if (!true) = true then A else B := iteF h
theorem go_ifn0 {A B : Prop} (h : A) : if (!false) = true then A else B := iteT h
/-! operators -/
variable {i j : Int} {m' n' : Nat}
theorem go_addN (q : Q (.int ((m' + n' : Nat) : Int)) H) : rI0 (fun i j => .int (i + j)) (.int (m' : Int)) (.int (n' : Int)) H Q := ⟨_, _, rfl, rfl, by rw [Int.natCast_add] at q; exact q⟩
theorem go_ltN (q : Q (.bl (decide (m' < n'))) H) : rI0 (fun i j => .bl (decide (i < j))) (.int (m' : Int)) (.int (n' : Int)) H Q := ⟨_, _, rfl, rfl, by show Q (.bl (decide ((m' : Int) < (n' : Int)))) H; rw [decide_eq_decide.mpr (Int.ofNat_lt (n := m') (m := n'))]; exact q⟩
theorem go_leN (q : Q (.bl (decide (m' ≤ n'))) H) : rI0 (fun i j => .bl (decide (i ≤ j))) (.int (m' : Int)) (.int (n' : Int)) H Q := ⟨_, _, rfl, rfl, by show Q (.bl (decide ((m' : Int) ≤ (n' : Int)))) H; rw [decide_eq_decide.mpr (Int.ofNat_le (m := m') (n := n'))]; exact q⟩
theorem go_gtN (q : Q (.bl (decide (n' < m'))) H) : rI0 (fun i j => .bl (decide (j < i))) (.int (m' : Int)) (.int (n' : Int)) H Q := ⟨_, _, rfl, rfl, by show Q (.bl (decide ((n' : Int) < (m' : Int)))) H; rw [decide_eq_decide.mpr (Int.ofNat_lt (n := n') (m := m'))]; exact q⟩
theorem go_geN (q : Q (.bl (decide (n' ≤ m'))) H) : rI0 (fun i j => .bl (decide (j ≤ i))) (.int (m' : Int)) (.int (n' : Int)) H Q := ⟨_, _, rfl, rfl, by show Q (.bl (decide ((n' : Int) ≤ (m' : Int)))) H; rw [decide_eq_decide.mpr (Int.ofNat_le (m := n') (n := m'))]; exact q⟩
theorem go_rI0 {g : Int → Int → V} (q : Q (g i j) H) : rI0 g (.int i) (.int j) H Q := ⟨i, j, rfl, rfl, q⟩
theorem go_mulN (h : m' < 2 ^ 63 ∨ n' < 2 ^ 63) (q : Q (.int ((m' * n' : Nat) : Int)) H) : rI CMul (fun i j => .int (i * j)) (.int (m' : Int)) (.int (n' : Int)) H Q :=
  ⟨_, _, rfl, rfl, by rcases h with h | h; exact .inl ⟨by omega, by omega⟩; exact .inr ⟨by omega, by omega⟩, by rw [Int.natCast_mul] at q; exact q⟩
theorem go_modN (h : 0 < n') (q : Q (.int ((m' % n' : Nat) : Int)) H) : rI (fun _ j => 0 < j) (fun i j => .int (i % j)) (.int (m' : Int)) (.int (n' : Int)) H Q :=
  ⟨_, _, rfl, rfl, by show (0 : Int) < (n' : Int); omega, by rw [Int.natCast_emod] at q; exact q⟩
theorem go_divN (h : 0 < n' ∧ n' < 1073741824) (q : Q (.int ((m' / n' : Nat) : Int)) H) : rI CDiv (fun i j => .int (i / j)) (.int (m' : Int)) (.int (n' : Int)) H Q :=
  ⟨_, _, rfl, rfl, ⟨by omega, by omega⟩, by rw [Int.natCast_ediv] at q; exact q⟩
theorem go_subN (h : n' ≤ m') (q : Q (.int ((m' - n' : Nat) : Int)) H) : rI0 (fun i j => .int (i - j)) (.int (m' : Int)) (.int (n' : Int)) H Q := ⟨_, _, rfl, rfl, by rw [Int.ofNat_sub h] at q; exact q⟩
theorem go_rI {Cd : Int → Int → Prop} {g : Int → Int → V} (h : Cd i j) (q : Q (g i j) H) : rI Cd g (.int i) (.int j) H Q := ⟨i, j, rfl, rfl, h, q⟩
theorem go_rU {g : Int → V} (q : Q (g i) H) : rU g (.int i) H Q := ⟨i, rfl, q⟩
theorem go_eqN (q : Q (.bl (decide (m' = n'))) H) : rEq (.int (m' : Int)) (.int (n' : Int)) H Q := ⟨rfl, by rw [decide_eq_decide.mpr (show V.int (m' : Int) = V.int (n' : Int) ↔ m' = n' by rw [V.int.injEq]; exact Int.ofNat_inj)]; exact q⟩
theorem go_neN (q : Q (.bl (!decide (m' = n'))) H) : rNe (.int (m' : Int)) (.int (n' : Int)) H Q := ⟨rfl, by rw [decide_eq_decide.mpr (show V.int (m' : Int) = V.int (n' : Int) ↔ m' = n' by rw [V.int.injEq]; exact Int.ofNat_inj)]; exact q⟩
theorem go_eqI (q : Q (.bl (decide (i = j))) H) : rEq (.int i) (.int j) H Q := ⟨rfl, by rw [decide_eq_decide.mpr (show V.int i = V.int j ↔ i = j by rw [V.int.injEq])]; exact q⟩
theorem go_neI (q : Q (.bl (!decide (i = j))) H) : rNe (.int i) (.int j) H Q := ⟨rfl, by rw [decide_eq_decide.mpr (show V.int i = V.int j ↔ i = j by rw [V.int.injEq])]; exact q⟩
theorem go_ixt (h : SqT K H p xs) (e : atI xs i = some v) (q : Q v H) : rIxT K (.ref p) (.int i) H Q := ⟨p, xs, i, v, rfl, rfl, h, e, q⟩
theorem go_ixl (h : SqL K H p xs) (e : atI xs i = some v) (q : Q v H) : rIxL K (.ref p) (.int i) H Q := ⟨p, xs, i, v, rfl, rfl, h, e, q⟩
theorem go_lent (h : SqT K H p xs) (q : Q (.int (xs.length : Int)) H) : rLenSeq K [.ref p] H Q := ⟨p, xs, rfl, .inr h, q⟩
theorem go_lenl (h : SqL K H p xs) (q : Q (.int (xs.length : Int)) H) : rLenSeq K [.ref p] H Q := ⟨p, xs, rfl, .inl h, q⟩
theorem go_lstof (h : SqL K H p xs ∨ SqT K H p xs) (q : ∀ l H', H l = none → Same H H' → H' l = some (.lst xs) → Q (.ref l) H') : rListOf K [.ref p] H Q := ⟨p, xs, rfl, h, fun l hl => q l _ hl (same_new hl) upd_same⟩
theorem go_tupofl (h : SqL K H p xs) (q : ∀ l H', H l = none → Same H H' → H' l = some (.tup xs) → Q (.ref l) H') : rTupOf K [.ref p] H Q := ⟨p, xs, rfl, .inl ⟨h, fun l hl => q l _ hl (same_new hl) upd_same⟩⟩
theorem go_eqD {d e : PyData} (h1 : Dp K H x d) (h2 : Dp K H y e) (s1 : SeqAt.shaped d = true) (s2 : SeqAt.shaped e = true) (q : Q (.bl (PyData.eqv d e)) H) : rEqD K x y H Q := ⟨d, e, h1, h2, s1, s2, q⟩
theorem go_neD {d e : PyData} (h1 : Dp K H x d) (h2 : Dp K H y e) (s1 : SeqAt.shaped d = true) (s2 : SeqAt.shaped e = true) (q : Q (.bl (!PyData.eqv d e)) H) : rNeD K x y H Q := ⟨d, e, h1, h2, s1, s2, q⟩
theorem go_sl {rs : V → Option Int → Option Int → Hp → VK → Prop} {tl th : TO} (q : te σ H fun x H1 => tl σ H1 fun l H2 => th σ H2 fun u H3 => rs x l u H3 Q) : tSl rs te tl th σ H Q := q
theorem go_part {QO : Option Int → Hp → Prop} (q : te σ H (AsI fun i H1 => QO (some i) H1)) : tPart te σ H QO := q
theorem go_nopart {QO : Option Int → Hp → Prop} (q : QO none H) : tNoPart σ H QO := q
theorem go_sllT {k : Nat} (h : SqL K H a xs) (q : ∀ p H', H p = none → Same H H' → H' p = some (.lst (xs.take k)) → Q (.ref p) H') : rSlL K (.ref a) none (some (k : Int)) H Q := ⟨a, xs, rfl, h, fun p hp => q p _ hp (same_new hp) (by rw [upd_same, cutT])⟩
theorem go_sllD {k : Nat} (h : SqL K H a xs) (q : ∀ p H', H p = none → Same H H' → H' p = some (.lst (xs.drop k)) → Q (.ref p) H') : rSlL K (.ref a) (some (k : Int)) none H Q := ⟨a, xs, rfl, h, fun p hp => q p _ hp (same_new hp) (by rw [upd_same, cutF])⟩
theorem go_cat {ys : List V} {l l' : Addr} (h1 : H l = some (.lst xs)) (h2 : H l' = some (.lst ys)) (hz : xs.length + ys.length ≤ sizeLine) (q : ∀ p H', H p = none → Same H H' → H' p = some (.lst (xs ++ ys)) → Q (.ref p) H') : rCat (.ref l) (.ref l') H Q := ⟨l, l', xs, ys, rfl, rfl, h1, h2, hz, fun p hp => q p _ hp (same_new hp) upd_same⟩
theorem go_all {bs : List Bool} (h : SqL K H a (bs.map V.bl)) (q : Q (.bl (bs.all id)) H) : rAll K [.ref a] H Q := ⟨a, bs, rfl, h, q⟩
theorem go_any {bs : List Bool} (h : SqL K H a (bs.map V.bl)) (q : Q (.bl (bs.any id)) H) : rAny K [.ref a] H Q := ⟨a, bs, rfl, h, q⟩
/-! to a later heap -/
variable {d : PyData} {ds : List PyData} {o : HO}
theorem up_dp (s : Same H H') (h : Dp K H v d) : Dp K H' v d := h.up s
theorem up_dpa (s : Same H H') (h : DpAll K H vs ds) : DpAll K H' vs ds := h.up s
theorem up_sqt (s : Same H H') (h : SqT K H a xs) : SqT K H' a xs := Same.tup s h
theorem up_sql (s : Same H H') (h : SqL K H a xs) : SqL K H' a xs := s.seq h
theorem up_get (s : Same H H') (h : H a = some o) : H' a = some o := s _ _ h
theorem up_pot (s : Same H H') (h : Pot H a) : Pot H' a := h.same s
theorem bu_dp (s : Bu p H H') (hp : Pot H p) (hn : NL d = true) (h : Dp K H v d) : Dp K H' v d := by
  obtain ⟨ys, e⟩ := hp.lst
  exact h.bu hn s e
theorem bu_sqt (s : Bu p H H') (hp : Pot H p) (h : SqT K H a xs) : SqT K H' a xs := by
  obtain ⟨ys, e⟩ := hp.lst
  exact s.sqt e h
theorem bu_sql (s : Bu p H H') (hp : a ≠ p) (h : SqL K H a xs) : SqL K H' a xs := s.seqL hp h
theorem bu_get (s : Bu p H H') (hp : a ≠ p) (h : H a = some o) : H' a = some o := s _ _ hp h
theorem bu_gett (s : Bu p H H') (hp : Pot H p) (h : H a = some (.tup xs)) : H' a = some (.tup xs) := s _ _ (fun e => by obtain ⟨ys, z⟩ := hp.lst; rw [e, z] at h; cases h) h
theorem bu_geti {dx : Addr} {fs : List (Str × V)} (s : Bu p H H') (hp : Pot H p) (h : H a = some (.ins C dx fs)) : H' a = some (.ins C dx fs) := s _ _ (fun e => by obtain ⟨ys, z⟩ := hp.lst; rw [e, z] at h; cases h) h
theorem pot_ne (hq : H q = none) (h : Pot H p) : q ≠ p := h.ne hq
theorem up_same {H0 : Hp} (s : Same H H') (h : Same H0 H) : Same H0 H' := h.trans s
theorem up_bu {H0 : Hp} (s : Same H H') (h : Bu p H0 H) : Bu p H0 H' := h.trans (Bu.of s p)
theorem bu_bu {H0 : Hp} (s : Bu p H H') (h : Bu p H0 H) : Bu p H0 H' := h.trans s
/-! data -/
theorem d_tup (h : H a = some (.tup vs)) (hs : DpAll K H vs ds) : Dp K H (.ref a) (.tuple ds) := .tup (SqT.of h) hs
theorem d_lst (h : H a = some (.lst vs)) (hs : DpAll K H vs ds) : Dp K H (.ref a) (.list ds) := .lst (SqL.of h) hs
/-! draw and pick -/
theorem c_drawN {k : Nat} (h0 : Pot H p) (h1 : 0 < k) (h2 : k ≤ 1000000000000000000) (q : ∀ (d : Nat) (H' : Hp), d < k → Pot H' p → Bu p H H' → Q (.int d) H') : sp_draw [.ref p, .int (k : Int)] H Q E :=
  ⟨_, _, rfl, h0, by omega, by omega, fun d H' hd => q d H' (by omega)⟩
theorem c_pick {l : Addr} (h0 : Pot H p) (h1 : l ≠ p) (h2 : SqL K H l xs) (h3 : xs ≠ []) (h4 : xs.length ≤ 1000) (q : ∀ (v : V) (H' : Hp), v ∈ xs → Pot H' p → Bu p H H' → Q v H') : sp_pick K [.ref p, .ref l] H Q E := ⟨_, _, _, rfl, h0, h1, h2, h3, h4, q⟩
end
end Mv
set_option Elab.async false
set_option maxRecDepth 100000
set_option maxHeartbeats 4000000
/-! Loops and comprehensions for the steps of mvo. -/
namespace Mv
open PySem PySem.Spec PyProof.Rows L2
def ForR (g : TG) (tb : TS) (D : Ends) (σ : L2.St) : It → Hp → Prop := fun J H1 => ∃ W : Nat → Nat → L2.St → Hp → Prop, (∃ m, W 0 m σ H1) ∧ ∀ i m σ H, W i m σ H →
  (J.stop i H ∧ D.nx σ H) ∨ (J.go i H ∧ ∃ N : L2.St → Hp → Prop, (∀ σ' H', N σ' H' → ∃ m', m' < m ∧ W (i + 1) m' σ' H') ∧ ∀ x H', J.yld i H x H' → g x σ H' fun σ2 H2 => tb { D with nx := N, ct := N, bk := D.nx } σ2 H2)
def LcR (g : TG) (tt : TT) (te : TE) (vs : List Nat) (σ : L2.St) (Q : VK) : It → Hp → Prop := fun J H1 => ∀ D, H1 D = none → ∃ W : Nat → Nat → Hp → Prop, (∃ m, W 0 m (upd H1 D (.lst []))) ∧ ∀ i m H, W i m H →
  (J.stop i H ∧ Q (.ref D) H) ∨ (J.go i H ∧ ∃ Nx : Hp → Prop, (∀ H', Nx H' → ∃ m', m' < m ∧ W (i + 1) m' H') ∧ ∀ x H', J.yld i H x H' → g x (wipe σ vs) H' fun σ2 H2 => wipe σ2 vs = wipe σ vs ∧ tt σ2 H2 fun b H3 =>
    if b = true then te σ2 H3 fun y H4 => ∃ acc, H4 D = some (.lst acc) ∧ acc.length < sizeLine ∧ Nx (upd H4 D (.lst (acc ++ [y]))) else Nx H3)
def Rg1 (R : It → Hp → Prop) : List V → Hp → Prop := fun vs H1 => ∃ j : Int, vs = [.int j] ∧ -(2 ^ 62) ≤ j ∧ j < 2 ^ 62 ∧ R (Itr 0 j.toNat) H1
def Rg2 (R : It → Hp → Prop) : List V → Hp → Prop := fun vs H1 => ∃ i j : Int, vs = [.int i, .int j] ∧ (-(2 ^ 62) ≤ i ∧ i < 2 ^ 62 ∧ -(2 ^ 62) ≤ j ∧ j < 2 ^ 62) ∧ R (Itr i (j - i).toNat) H1
def LsR (K : PySem.W.Frag) (R : It → Hp → Prop) : VK := fun x H1 => ∃ a, x = .ref a ∧ (∃ xs, SqL K H1 a xs) ∧ R (Itl K a) H1
def TpR (K : PySem.W.Frag) (R : It → Hp → Prop) : VK := fun x H1 => ∃ a, x = .ref a ∧ (∃ xs, SqT K H1 a xs) ∧ R (Itt K a) H1
def ZpR (K : PySem.W.Frag) (R : It → Hp → Prop) : List V → Hp → Prop := fun vs H1 => ∃ a b xs ys, vs = [.ref a, .ref b] ∧ ((SqL K H1 a xs ∧ SqL K H1 b ys ∧ R (Itz K a b) H1) ∨ (SqT K H1 a xs ∧ SqT K H1 b ys ∧ R (RZ.ItzT K a b) H1))
def EnR (K : PySem.W.Frag) (R : It → Hp → Prop) : List V → Hp → Prop := fun vs H1 => ∃ b a xs, vs = [.ref a] ∧ SqK b K H1 a xs ∧ R (IteK b K a) H1
section
variable {K : PySem.W.Frag} {σ σ' : L2.St} {H H' : Hp} {Q : VK} {n b c : L2.St → Hp → Prop} {rt : VK} {x : V} {vs : List Nat} {xs ys : List V} {te : TE} {ta : TA} {tt : TT} {tb : TS} {g : TG} {wi : TI} {a a' p : Addr} {R : It → Hp → Prop}
theorem go_for (q : wi σ H (ForR g tb ⟨n, rt, b, c⟩ σ)) : tFor wi g tb ⟨n, rt, b, c⟩ σ H := q
theorem go_lc (q : wi σ H (LcR g tt te vs σ Q)) : tLc wi g tt te vs σ H Q := q
theorem go_irng1 (q : ta σ H (Rg1 R)) : iRng1 ta σ H R := q
theorem go_irng2 (q : ta σ H (Rg2 R)) : iRng2 ta σ H R := q
theorem go_ilist (q : te σ H (LsR K R)) : iList K te σ H R := q
theorem go_itup (q : te σ H (TpR K R)) : iTup K te σ H R := q
theorem go_izip (q : ta σ H (ZpR K R)) : RZ.iZipA K ta σ H R := q
theorem go_ienum (q : ta σ H (EnR K R)) : iEnumA K ta σ H R := q
theorem go_rg1 {k : Nat} (h : k < 2 ^ 62) (q : R (Itr 0 k) H) : Rg1 R [.int (k : Int)] H := ⟨k, rfl, by omega, by omega, by rw [Int.toNat_natCast]; exact q⟩
theorem go_rg2 {k j : Nat} (h : k < 2 ^ 62) (h2 : j < 2 ^ 62) (q : R (Itr (k : Int) (j - k)) H) : Rg2 R [.int (k : Int), .int (j : Int)] H := ⟨k, j, rfl, ⟨by omega, by omega, by omega, by omega⟩, by rw [show ((j : Int) - (k : Int)).toNat = j - k by omega]; exact q⟩
theorem go_lsr (h : SqL K H a xs) (q : R (Itl K a) H) : LsR K R (.ref a) H := ⟨a, rfl, ⟨_, h⟩, q⟩
theorem go_tpr (h : SqT K H a xs) (q : R (Itt K a) H) : TpR K R (.ref a) H := ⟨a, rfl, ⟨_, h⟩, q⟩
theorem go_zpr (h : SqL K H a xs) (h2 : SqL K H a' ys) (q : R (Itz K a a') H) : ZpR K R [.ref a, .ref a'] H := ⟨a, a', xs, ys, rfl, .inl ⟨h, h2, q⟩⟩
theorem go_zprT (h : SqT K H a xs) (h2 : SqT K H a' ys) (q : R (RZ.ItzT K a a') H) : ZpR K R [.ref a, .ref a'] H := ⟨a, a', xs, ys, rfl, .inr ⟨h, h2, q⟩⟩
theorem go_enrL (h : SqL K H a xs) (q : R (IteK true K a) H) : EnR K R [.ref a] H := ⟨true, a, xs, rfl, h, q⟩
theorem go_enrT (h : SqT K H a xs) (q : R (IteK false K a) H) : EnR K R [.ref a] H := ⟨false, a, xs, rfl, h, q⟩
theorem go_catA {ys : List V} (h1 : SqT K H a xs) (h2 : SqT K H a' ys) (hz : xs.length + ys.length ≤ sizeLine) (q : ∀ p H', Same H H' → SqT K H' p (xs ++ ys) → Q (.ref p) H') : rCatA K (.ref a) (.ref a') H Q := by
  refine ⟨a, a', xs, ys, rfl, rfl, h1, h2, hz, fun e => ?_, fun _ e => ?_, fun _ _ p hp => q p _ (same_new hp) (SqT.of upd_same)⟩
  · subst e; exact q a' H (Same.refl _) h2
  · subst e; exact q a H (Same.refl _) (by rw [List.append_nil]; exact h1)
theorem go_slaT {k : Nat} (h : SqT K H a xs) (q : ∀ p H', Same H H' → SqT K H' p (xs.take k) → Q (.ref p) H') : rSlA K (.ref a) none (some (k : Int)) H Q := by
  refine ⟨a, xs, rfl, h, fun e => q a H (Same.refl _) ?_, fun _ p hp => q p _ (same_new hp) (SqT.of (by rw [upd_same, cutT]))⟩
  rw [HT.sIx_nat] at e
  rw [List.take_of_length_le (by omega)]
  exact h
theorem go_slaD {k : Nat} (h : SqT K H a xs) (q : ∀ p H', Same H H' → SqT K H' p (xs.drop k) → Q (.ref p) H') : rSlA K (.ref a) (some (k : Int)) none H Q := by
  refine ⟨a, xs, rfl, h, fun e => q a H (Same.refl _) ?_, fun _ p hp => q p _ (same_new hp) (SqT.of (by rw [upd_same, cutF]))⟩
  rw [HT.sIx_nat] at e
  by_cases z : k = 0
  · subst z; exact h
  · have : xs = [] := List.eq_nil_of_length_eq_zero (by omega)
    subst this
    simpa using h
/-! for -/
theorem forRange {k : Nat} (Pv : Nat → L2.St → Hp → Prop) (h0 : Pv 0 σ H) (hs : ∀ (i : Nat) σ H, i < k → Pv i σ H → g (.int (i : Int)) σ H fun σ2 H2 => tb ⟨Pv (i + 1), rt, n, Pv (i + 1)⟩ σ2 H2) (hd : ∀ σ H, Pv k σ H → n σ H) : ForR g tb ⟨n, rt, b, c⟩ σ (Itr 0 k) H :=
  for_it (D := ⟨n, rt, b, c⟩) walk_range Pv h0 (fun _ _ _ _ _ => trivial) (fun i x σ H H' hi hp hy => by
    obtain ⟨rfl, rfl⟩ := hy
    have := hs i σ H' hi hp
    rw [← Int.zero_add (i : Int)] at this
    exact this) hd
theorem forRange2 {k : Nat} {lo : Nat} (Pv : Nat → L2.St → Hp → Prop) (h0 : Pv 0 σ H) (hs : ∀ (i : Nat) σ H, i < k → Pv i σ H → g (.int ((lo + i : Nat) : Int)) σ H fun σ2 H2 => tb ⟨Pv (i + 1), rt, n, Pv (i + 1)⟩ σ2 H2) (hd : ∀ σ H, Pv k σ H → n σ H) : ForR g tb ⟨n, rt, b, c⟩ σ (Itr (lo : Int) k) H :=
  for_it (D := ⟨n, rt, b, c⟩) walk_range Pv h0 (fun _ _ _ _ _ => trivial) (fun i x σ H H' hi hp hy => by
    obtain ⟨rfl, rfl⟩ := hy
    have := hs i σ H' hi hp
    rw [Int.natCast_add] at this
    exact this) hd
theorem forList (Pv : Nat → L2.St → Hp → Prop) (h0 : Pv 0 σ H) (hG : ∀ i σ H, Pv i σ H → SqL K H a xs) (hs : ∀ (i : Nat) x σ H, i < xs.length → xs[i]? = some x → Pv i σ H → g x σ H fun σ2 H2 => tb ⟨Pv (i + 1), rt, n, Pv (i + 1)⟩ σ2 H2) (hd : ∀ σ H, Pv xs.length σ H → n σ H) :
    ForR g tb ⟨n, rt, b, c⟩ σ (Itl K a) H :=
  for_it (D := ⟨n, rt, b, c⟩) walk_list Pv h0 (fun i σ H _ h => hG i σ H h) (fun i x σ H H' hi hp hy => by
    obtain ⟨rfl, hx⟩ := hy
    exact hs i x σ H' hi hx hp) hd
theorem forTup (Pv : Nat → L2.St → Hp → Prop) (h0 : Pv 0 σ H) (hG : ∀ i σ H, Pv i σ H → SqT K H a xs) (hs : ∀ (i : Nat) x σ H, i < xs.length → xs[i]? = some x → Pv i σ H → g x σ H fun σ2 H2 => tb ⟨Pv (i + 1), rt, n, Pv (i + 1)⟩ σ2 H2) (hd : ∀ σ H, Pv xs.length σ H → n σ H) :
    ForR g tb ⟨n, rt, b, c⟩ σ (Itt K a) H :=
  for_it (D := ⟨n, rt, b, c⟩) walk_tup Pv h0 (fun i σ H _ h => hG i σ H h) (fun i x σ H H' hi hp hy => by
    obtain ⟨rfl, hx⟩ := hy
    exact hs i x σ H' hi hx hp) hd
theorem forZip {k : Nat} (hk : k = min xs.length ys.length) (Pv : Nat → L2.St → Hp → Prop) (h0 : Pv 0 σ H) (hG : ∀ i σ H, Pv i σ H → SqL K H a xs ∧ SqL K H a' ys)
    (hs : ∀ (i : Nat) x y T σ H H', i < k → xs[i]? = some x → ys[i]? = some y → Pv i σ H → H T = none → Same H H' → H' T = some (.tup [x, y]) → g (.ref T) σ H' fun σ2 H2 => tb ⟨Pv (i + 1), rt, n, Pv (i + 1)⟩ σ2 H2) (hd : ∀ σ H, Pv k σ H → n σ H) :
    ForR g tb ⟨n, rt, b, c⟩ σ (Itz K a a') H :=
  for_it (D := ⟨n, rt, b, c⟩) (walk_zip hk) Pv h0 (fun i σ H _ h => hG i σ H h) (fun i x σ H H' hi hp hy => by
    obtain ⟨T, x', y', rfl, hT, rfl, hx, hy⟩ := hy
    exact hs i x' y' T σ H _ hi hx hy hp hT (same_new hT) upd_same) hd
/-! while -/
def WhK (Pv : Nat → L2.St → Hp → Prop) (m : Nat) (tb : TS) (n : L2.St → Hp → Prop) (rt : VK) (σ : L2.St) : Bool → Hp → Prop := fun b H1 => if b = true then ∃ N : L2.St → Hp → Prop, (∀ σ' H', N σ' H' → ∃ m', m' < m ∧ Pv m' σ' H') ∧ tb ⟨N, rt, n, N⟩ σ H1 else n σ H1
theorem whileN (Pv : Nat → L2.St → Hp → Prop) (m0 : Nat) (h0 : Pv m0 σ H) (hs : ∀ m σ H, Pv m σ H → tt σ H (WhK Pv m tb n rt σ)) : tWhile tt tb ⟨n, rt, b, c⟩ σ H := ⟨Pv, ⟨m0, h0⟩, hs⟩
theorem wh_t {Pv : Nat → L2.St → Hp → Prop} {m : Nat} (q : tb ⟨fun s h => ∃ m', m' < m ∧ Pv m' s h, rt, n, fun s h => ∃ m', m' < m ∧ Pv m' s h⟩ σ H) : WhK Pv m tb n rt σ true H := by
  unfold WhK
  rw [if_pos rfl]
  exact ⟨_, fun _ _ h => h, q⟩
theorem wh_f {Pv : Nat → L2.St → Hp → Prop} {m : Nat} (q : n σ H) : WhK Pv m tb n rt σ false H := by
  unfold WhK
  rw [if_neg (by decide)]
  exact q
theorem go_rep {k : Nat} {v : V} (h : H a = some (.lst [v])) (hk : k ≤ 100000) (q : ∀ p H', H p = none → Same H H' → H' p = some (.lst (List.replicate k v)) → Q (.ref p) H') : rRep (.ref a) (.int (k : Int)) H Q := by
  refine ⟨a, k, [v], rfl, rfl, h, by omega, by omega, by simp; unfold sizeLine; omega, fun p hp => q p _ hp (same_new hp) ?_⟩
  rw [upd_same]
  simp
/-! comprehensions of data without lists; nothing old changes -/
theorem lcGen {J : It} {k : Nat} {G : Hp → Prop} {Y : Nat → Hp → V → Hp → Prop} (w : Walk J k G Y) (f : Nat → PyData) (hz : k ≤ 100000) (hl : ∀ i, i < k → NL (f i) = true) (hG : ∀ H', Same H H' → G H')
    (hs : ∀ (i : Nat) (x : V) (H1 H2 : Hp) (Q' : VK), i < k → Same H H1 → Y i H1 x H2 → (∀ y H4, Same H1 H4 → Dp K H4 y (f i) → Q' y H4) → g x (wipe σ vs) H2 fun σ2 H3 => wipe σ2 vs = wipe σ vs ∧ te σ2 H3 Q')
    (hd : ∀ D H' ys, H D = none → Same H H' → H' D = some (.lst ys) → DpAll K H' ys ((List.range k).map f) → Q (.ref D) H') (hg : ∀ x σ' H' (P Q : L2.St → Hp → Prop), (∀ σ2 H2, P σ2 H2 → Q σ2 H2) → g x σ' H' P → g x σ' H' Q) : LcR g tYes te vs σ Q J H := by
  intro D hD
  refine lc_nl (K := K) w ((List.range k).map f) (by simp) hz (NLs.of fun d hd => ?_) hD hG ?_ ?_ hg
  · obtain ⟨i, hi, rfl⟩ := List.mem_map.mp hd
    exact hl i (List.mem_range.mp hi)
  · rintro i e x H1 H2 Q' hi he s1 hy hq
    rw [List.getElem?_map, List.getElem?_range hi] at he
    obtain rfl := Option.some.inj he
    exact hs i x H1 H2 Q' hi s1 hy hq
  · rintro H1 ys s1 eD hall
    exact hd D H1 ys hD s1 eD hall
theorem lcRange {k j : Nat} (f : Nat → PyData) (hz : k ≤ 100000) (hl : ∀ i, i < k → NL (f i) = true) (hw : ∀ x, wipe ((wipe σ vs).set j (some x)) vs = wipe σ vs)
    (hs : ∀ (i : Nat) (H1 : Hp) (Q' : VK), i < k → Same H H1 → (∀ y H4, Same H1 H4 → Dp K H4 y (f i) → Q' y H4) → te ((wipe σ vs).set j (some (.int (i : Int)))) H1 Q')
    (hd : ∀ D H' ys, H D = none → Same H H' → H' D = some (.lst ys) → DpAll K H' ys ((List.range k).map f) → Q (.ref D) H') : LcR (gName j) tYes te vs σ Q (Itr 0 k) H :=
  lcGen walk_range f hz hl (fun _ _ => trivial) (fun i x H1 H2 Q' hi s1 hy hq => by
    obtain ⟨rfl, rfl⟩ := hy
    refine ⟨hw _, ?_⟩
    have := hs i _ Q' hi s1 hq
    rw [← Int.zero_add (i : Int)] at this
    exact this) hd gName_mono
theorem lcList {j : Nat} (f : Nat → PyData) (ha : SqL K H a xs) (hz : xs.length ≤ 100000) (hl : ∀ i, i < xs.length → NL (f i) = true) (hw : ∀ x, wipe ((wipe σ vs).set j (some x)) vs = wipe σ vs)
    (hs : ∀ (i : Nat) (x : V) (H1 : Hp) (Q' : VK), i < xs.length → xs[i]? = some x → Same H H1 → (∀ y H4, Same H1 H4 → Dp K H4 y (f i) → Q' y H4) → te ((wipe σ vs).set j (some x)) H1 Q')
    (hd : ∀ D H' ys, H D = none → Same H H' → H' D = some (.lst ys) → DpAll K H' ys ((List.range xs.length).map f) → Q (.ref D) H') : LcR (gName j) tYes te vs σ Q (Itl K a) H :=
  lcGen walk_list f hz hl (fun _ s => s.seq ha) (fun i x H1 H2 Q' hi s1 hy hq => by
    obtain ⟨rfl, hx⟩ := hy
    exact ⟨hw _, hs i x _ Q' hi hx s1 hq⟩) hd gName_mono
theorem lcTup {j : Nat} (f : Nat → PyData) (ha : SqT K H a xs) (hz : xs.length ≤ 100000) (hl : ∀ i, i < xs.length → NL (f i) = true) (hw : ∀ x, wipe ((wipe σ vs).set j (some x)) vs = wipe σ vs)
    (hs : ∀ (i : Nat) (x : V) (H1 : Hp) (Q' : VK), i < xs.length → xs[i]? = some x → Same H H1 → (∀ y H4, Same H1 H4 → Dp K H4 y (f i) → Q' y H4) → te ((wipe σ vs).set j (some x)) H1 Q')
    (hd : ∀ D H' ys, H D = none → Same H H' → H' D = some (.lst ys) → DpAll K H' ys ((List.range xs.length).map f) → Q (.ref D) H') : LcR (gName j) tYes te vs σ Q (Itt K a) H :=
  lcGen walk_tup f hz hl (fun _ s => Same.tup s ha) (fun i x H1 H2 Q' hi s1 hy hq => by
    obtain ⟨rfl, hx⟩ := hy
    exact ⟨hw _, hs i x _ Q' hi hx s1 hq⟩) hd gName_mono
/-- all [..] where each is true: the list of trues -/
theorem trues {k : Nat} {ys : List V} (h : DpAll K H ys ((List.range k).map fun _ => PyData.bool true)) : ys = (List.replicate k true).map V.bl :=
  DpAll.boolsE (K := K) (H := H) (by rw [List.map_const', List.length_range] at h; rw [List.map_replicate]; exact h)
theorem trues_all (k : Nat) : (List.replicate k true).all id = true := by simp
theorem DpAll.nth {ys : List V} {k i : Nat} {f : Nat → PyData} (h : DpAll K H ys ((List.range k).map f)) (hi : i < k) : ∃ y, ys[i]? = some y ∧ Dp K H y (f i) := h.got (by rw [List.getElem?_map, List.getElem?_range hi]; rfl)
/-! with draws: all but the pot is kept; what is made is data that is Pd -/
theorem Pot.upd {D : Addr} {o : HO} (h : Pot H p) (hD : D ≠ p) : Pot (upd H D o) p := by
  obtain ⟨x, y, e, r⟩ := h.ex
  exact ⟨x, y, by rw [upd_ne (Ne.symm hD)]; exact e, r⟩
theorem lcBu {k j : Nat} (Pd : Nat → PyData → Prop) (hp : Pot H p) (hz : k ≤ 100000) (hw : ∀ x, wipe ((wipe σ vs).set j (some x)) vs = wipe σ vs)
    (hs : ∀ (i : Nat) (H1 : Hp) (Q' : VK), i < k → Pot H1 p → Bu p H H1 → (∀ y d H4, Bu p H1 H4 → Pot H4 p → NL d = true → Pd i d → Dp K H4 y d → Q' y H4) → te ((wipe σ vs).set j (some (.int (i : Int)))) H1 Q')
    (hd : ∀ D H' ys ds, H D = none → D ≠ p → Bu p H H' → Pot H' p → H' D = some (.lst ys) → ds.length = k → (∀ (i : Nat) d, ds[i]? = some d → NL d = true ∧ Pd i d) → DpAll K H' ys ds → Q (.ref D) H') : LcR (gName j) tYes te vs σ Q (Itr 0 k) H := by
  intro D hD
  have hne : D ≠ p := hp.ne hD
  refine lc_it walk_range (fun i H' => Bu p H H' ∧ Pot H' p ∧ ∃ ys ds, H' D = some (.lst ys) ∧ ds.length = i ∧ (∀ (i : Nat) d, ds[i]? = some d → NL d = true ∧ Pd i d) ∧ DpAll K H' ys ds) ⟨Bu.new hD, hp.upd hne, [], [], upd_same, rfl, fun i d h => by simp at h, .nil⟩ (fun _ _ _ _ => trivial) ?_ ?_
  · rintro i x H1 H2 hi ⟨b1, p1, ys, ds, eD, hlen, hds, hall⟩ ⟨rfl, rfl⟩
    refine ⟨hw _, ?_⟩
    show te ((wipe σ vs).set j (some (.int ((0 : Int) + (i : Int))))) _ _
    rw [Int.zero_add]
    refine hs i _ _ hi p1 b1 fun y d H4 b4 p4 hnl hpd hdp => ?_
    have e4 := b4 _ _ hne eD
    obtain ⟨zs, ez⟩ := p1.lst
    have nl : NLs ds = true := NLs.of fun d hd => by
      obtain ⟨i, hi⟩ := List.getElem?_of_mem hd
      exact (hds i d hi).1
    refine ⟨ys, e4, ?_, ?_, p4.upd hne, ys ++ [y], ds ++ [d], upd_same, by simp [hlen], ?_, ?_⟩
    · rw [hall.len, hlen]; unfold sizeLine; omega
    · intro b o nb e
      rw [upd_ne (ne_of_none e hD)]
      exact (b1.trans b4) b o nb e
    · intro i' d' h'
      rcases Nat.lt_trichotomy i' ds.length with z | z | z
      · rw [List.getElem?_append_left z] at h'
        exact hds i' d' h'
      · subst z
        rw [List.getElem?_append_right (Nat.le_refl _), Nat.sub_self] at h'
        obtain rfl := Option.some.inj h'
        rw [hlen]
        exact ⟨hnl, hpd⟩
      · rw [List.getElem?_eq_none (by simp; omega)] at h'
        cases h'
    · exact ((hall.bu nl b4 ez).bu nl Bu.set e4).app (.cons (hdp.bu hnl Bu.set e4) .nil)
  · rintro H1 ⟨b1, p1, ys, ds, eD, hlen, hds, hall⟩
    exact hd D H1 ys ds hD hne b1 p1 eD hlen hds hall
theorem lcBuL {j : Nat} (Pd : Nat → PyData → Prop) (hp : Pot H p) (ha : H a = some (.lst xs)) (hap : a ≠ p) (hz : xs.length ≤ 100000) (hw : ∀ x, wipe ((wipe σ vs).set j (some x)) vs = wipe σ vs)
    (hs : ∀ (i : Nat) (x : V) (H1 : Hp) (Q' : VK), i < xs.length → xs[i]? = some x → Pot H1 p → Bu p H H1 → (∀ y d H4, Bu p H1 H4 → Pot H4 p → NL d = true → Pd i d → Dp K H4 y d → Q' y H4) → te ((wipe σ vs).set j (some x)) H1 Q')
    (hd : ∀ D H' ys ds, H D = none → D ≠ p → Bu p H H' → Pot H' p → H' D = some (.lst ys) → ds.length = xs.length → (∀ (i : Nat) d, ds[i]? = some d → NL d = true ∧ Pd i d) → DpAll K H' ys ds → Q (.ref D) H') : LcR (gName j) tYes te vs σ Q (Itl K a) H := by
  intro D hD
  have hne : D ≠ p := hp.ne hD
  refine lc_it walk_list (fun i H' => Bu p H H' ∧ Pot H' p ∧ ∃ ys ds, H' D = some (.lst ys) ∧ ds.length = i ∧ (∀ (i : Nat) d, ds[i]? = some d → NL d = true ∧ Pd i d) ∧ DpAll K H' ys ds) ⟨Bu.new hD, hp.upd hne, [], [], upd_same, rfl, fun i d h => by simp at h, .nil⟩ (fun i H' _ h => SqL.of (h.1 _ _ hap ha)) ?_ ?_
  · rintro i x H1 H2 hi ⟨b1, p1, ys, ds, eD, hlen, hds, hall⟩ ⟨rfl, hx⟩
    refine ⟨hw _, ?_⟩
    show te ((wipe σ vs).set j (some x)) _ _
    refine hs i x _ _ hi hx p1 b1 fun y d H4 b4 p4 hnl hpd hdp => ?_
    have e4 := b4 _ _ hne eD
    obtain ⟨zs, ez⟩ := p1.lst
    have nl : NLs ds = true := NLs.of fun d hd => by
      obtain ⟨i, hi⟩ := List.getElem?_of_mem hd
      exact (hds i d hi).1
    refine ⟨ys, e4, ?_, ?_, p4.upd hne, ys ++ [y], ds ++ [d], upd_same, by simp [hlen], ?_, ?_⟩
    · rw [hall.len, hlen]; unfold sizeLine; omega
    · intro b o nb e
      rw [upd_ne (ne_of_none e hD)]
      exact (b1.trans b4) b o nb e
    · intro i' d' h'
      rcases Nat.lt_trichotomy i' ds.length with z | z | z
      · rw [List.getElem?_append_left z] at h'
        exact hds i' d' h'
      · subst z
        rw [List.getElem?_append_right (Nat.le_refl _), Nat.sub_self] at h'
        obtain rfl := Option.some.inj h'
        rw [hlen]
        exact ⟨hnl, hpd⟩
      · rw [List.getElem?_eq_none (by simp; omega)] at h'
        cases h'
    · exact ((hall.bu nl b4 ez).bu nl Bu.set e4).app (.cons (hdp.bu hnl Bu.set e4) .nil)
  · rintro H1 ⟨b1, p1, ys, ds, eD, hlen, hds, hall⟩
    exact hd D H1 ys ds hD hne b1 p1 eD hlen hds hall
end
end Mv
set_option Elab.async false
set_option maxRecDepth 100000
set_option maxHeartbeats 4000000
/-! An instance that changes: its fields are stored, all else is kept. -/
namespace Mv
open PySem PySem.Spec PyProof.Rows L2
/-- the instance at a, of k fields, changes; all else is kept -/
def Mi (a : Addr) (k : Nat) (H H' : Hp) : Prop := (∃ C dx fs, H a = some (.ins C dx fs) ∧ fs.length = k) ∧ Bu a H H'
def SfR (K : PySem.W.Frag) (f : Str) (y : V) (n : L2.St → Hp → Prop) (σ : L2.St) : VK := fun x H2 => ∃ a C dx fs, x = .ref a ∧ H2 a = some (.ins C dx fs) ∧ Cls K C ∧ NoAttr K C f ∧ fs.length < 1000 ∧ n σ (upd H2 a (.ins C dx (putF f y fs)))
section
variable {K : PySem.W.Frag} {σ : L2.St} {H H' : Hp} {Q : VK} {n b c : L2.St → Hp → Prop} {rt : VK} {x y v : V} {xs ys : List V} {ta tv te : TE} {a p q C dx : Addr} {f : Str} {fs fs' : List (Str × V)} {k : Nat} {d : PyData} {ds : List PyData} {vs : List V}
theorem ps_fld' {X : Cx} {o value : Expr} {pos pos' : Pos} (ha : PE X o ta) (hv : PE X value tv) (hs : swapsWith value (some (.Attribute o f pos')) pos.line X.env = pure false) (e : X.K = K := by (conv => lhs; whnf)) : PS X (.Assign [.Attribute o f pos'] value pos) (sFld K ta tv f) := by
  subst e
  exact ps_fld ha hv hs
theorem go_sfld (q : tv σ H fun y H1 => ta σ H1 (SfR K f y n σ)) : sFld K ta tv f ⟨n, rt, b, c⟩ σ H := q
theorem go_sfr (h : H a = some (.ins C dx fs)) (hc : Cls K C) (hn : NoAttr K C f) (hl : fs.length < 1000) (e : putF f y fs = fs') (q : ∀ H', Mi a fs.length H H' → H' a = some (.ins C dx fs') → n σ H') : SfR K f y n σ (.ref a) H :=
  ⟨a, C, dx, fs, rfl, h, hc, hn, hl, by subst e; exact q _ ⟨⟨C, dx, fs, h, rfl⟩, Bu.set⟩ upd_same⟩
theorem mi_sqt (s : Mi a k H H') (h : SqT K H p xs) : SqT K H' p xs := by
  obtain ⟨⟨C, dx, fs, e, _⟩, b⟩ := s
  rcases h with (h | ⟨o, h⟩) | h
  · exact .inl (.inl (b p _ (fun z => by rw [z, e] at h; cases h) h))
  · exact .inl (.inr ⟨o, b p _ (fun z => by rw [z, e] at h; cases h) h⟩)
  · exact .inr h
theorem mi_sql (s : Mi a k H H') (h : SqL K H p xs) : SqL K H' p xs := by
  obtain ⟨⟨C, dx, fs, e, _⟩, b⟩ := s
  rcases h with (h | ⟨o, h⟩) | h
  · exact .inl (.inl (b p _ (fun z => by rw [z, e] at h; cases h) h))
  · exact .inl (.inr ⟨o, b p _ (fun z => by rw [z, e] at h; cases h) h⟩)
  · exact .inr h
theorem mi_gett (s : Mi a k H H') (h : H p = some (.tup xs)) : H' p = some (.tup xs) := by
  obtain ⟨⟨C, dx, fs, e, _⟩, b⟩ := s
  exact b p _ (fun z => by rw [z, e] at h; cases h) h
theorem mi_getl (s : Mi a k H H') (h : H p = some (.lst xs)) : H' p = some (.lst xs) := by
  obtain ⟨⟨C, dx, fs, e, _⟩, b⟩ := s
  exact b p _ (fun z => by rw [z, e] at h; cases h) h
theorem mi_pot (s : Mi a k H H') (h : Pot H p) : Pot H' p := by
  obtain ⟨x, y, e, r⟩ := h.ex
  exact ⟨x, y, mi_getl s e, r⟩
mutual
theorem mi_dp' (s : Mi a k H H') : ∀ (d : PyData) (v : V), Dp K H v d → Dp K H' v d
  | .none, _, h => by cases h; exact .non
  | .bool b, _, h => by cases h; exact .bl b
  | .int i, _, h => by cases h; exact .int i
  | .str x, _, h => by cases h; exact .str x
  | .list ds, _, h => by
    cases h with
    | lst hs ha => exact .lst (mi_sql s hs) (mi_dpa' s ds _ ha)
  | .tuple ds, _, h => by
    cases h with
    | tup hs ha => exact .tup (mi_sqt s hs) (mi_dpa' s ds _ ha)
  | .dict _, _, h => by cases h
theorem mi_dpa' (s : Mi a k H H') : ∀ (ds : List PyData) (vs : List V), DpAll K H vs ds → DpAll K H' vs ds
  | [], _, h => by cases h; exact .nil
  | d :: ds, _, h => by
    cases h with
    | cons h1 h2 => exact .cons (mi_dp' s d _ h1) (mi_dpa' s ds _ h2)
end
theorem mi_dp (s : Mi a k H H') (h : Dp K H v d) : Dp K H' v d := mi_dp' s d v h
theorem mi_dpa (s : Mi a k H H') (h : DpAll K H vs ds) : DpAll K H' vs ds := mi_dpa' s ds vs h
theorem mi_same (s : Same H H') (h : H a = some (.ins C dx fs)) : Mi a fs.length H H' := ⟨⟨C, dx, fs, h, rfl⟩, Bu.of s a⟩
theorem mi_refl (h : H a = some (.ins C dx fs)) (hk : fs.length = k) : Mi a k H H := ⟨⟨C, dx, fs, h, hk⟩, Bu.refl _ _⟩
/-- Mi, then nothing old changes; and so on -/
theorem Mi.up {H0 : Hp} (h : Mi a k H0 H) (s : Same H H') : Mi a k H0 H' := ⟨h.1, h.2.trans (Bu.of s a)⟩
theorem up_mi {H0 : Hp} (s : Same H H') (h : Mi a k H0 H) : Mi a k H0 H' := h.up s
theorem mi_mi {H0 : Hp} {j : Nat} (s : Mi a j H H') (h : Mi a k H0 H) : Mi a k H0 H' := ⟨h.1, h.2.trans s.2⟩
theorem mi_bu {H0 : Hp} (s : Mi a k H H') (h : Bu a H0 H) : Bu a H0 H' := h.trans s.2
end
end Mv
set_option Elab.async false
set_option maxRecDepth 100000
set_option maxHeartbeats 4000000
/-! Keyword calls in another sequence, repr, is, powers: for the steps of mvo. -/
namespace Mv
open PySem PySem.Spec PyProof.Rows L2
def kSw2 {α : Type} (vs zs : List α) : List α := match vs, zs with
  | [], [a, b] => [b, a]
  | vs, zs => vs ++ zs
def kRev3 {α : Type} (vs zs : List α) : List α := match vs, zs with
  | [], [a, b, c] => [c, b, a]
  | vs, zs => vs ++ zs
def kId {α : Type} (vs zs : List α) : List α := vs ++ zs
theorem kSw2_rel {vs zs : List V} {us ws : List Value} (h1 : Vals vs us) (h2 : Vals zs ws) : Vals (kSw2 vs zs) (kSw2 us ws) := by
  cases h1 with
  | cons a b => exact Vals.append (Paired.cons a b) h2
  | nil =>
    cases h2 with
    | nil => exact .nil
    | cons a h =>
      cases h with
      | nil => exact .cons a .nil
      | cons b h =>
        cases h with
        | nil => exact .cons b (.cons a .nil)
        | cons c h => exact .cons a (.cons b (.cons c h))
theorem kRev3_rel {vs zs : List V} {us ws : List Value} (h1 : Vals vs us) (h2 : Vals zs ws) : Vals (kRev3 vs zs) (kRev3 us ws) := by
  cases h1 with
  | cons a b => exact Vals.append (Paired.cons a b) h2
  | nil =>
    cases h2 with
    | nil => exact .nil
    | cons a h =>
      cases h with
      | nil => exact .cons a .nil
      | cons b h =>
        cases h with
        | nil => exact .cons a (.cons b .nil)
        | cons c h =>
          cases h with
          | nil => exact .cons c (.cons b (.cons a .nil))
          | cons d h => exact .cons a (.cons b (.cons c (.cons d h)))
theorem kId_rel {vs zs : List V} {us ws : List Value} (h1 : Vals vs us) (h2 : Vals zs ws) : Vals (kId vs zs) (kId us ws) := h1.append h2
def KnR (m : Nat) (sp : Sp) (gV : List V → List V → List V) (pre : List V) (Q : VK) : List V → Hp → Prop := fun zs H2 => zs.length = m ∧ sp (gV pre zs) H2 Q E0
section
variable {K : PySem.W.Frag} {σ : L2.St} {H H' : Hp} {Q : VK} {x y v : V} {vs zs pre : List V} {t : TA} {ta : TE} {a C dx : Addr} {fs : List (Str × V)} {sp : Sp} {gV : List V → List V → List V} {n m : Nat} {ds : List PyData} {nm : Str}
theorem go_knr0 (q : t σ H (KnR m sp gV pre Q)) : tCallKn n m sp gV pre t σ H Q := q
theorem go_knr (hl : zs.length = m) (e : gV pre zs = vs) (q : sp vs H Q E0) : KnR m sp gV pre Q zs H := ⟨hl, by rw [e]; exact q⟩
def MkR (C : Addr) (nm : Str) (n : Nat) (sp : Sp) (gV : List V → List V → List V) (tk : TA) (σ : L2.St) (Q : VK) : VK := fun x H1 => ∃ a dx fs, x = .ref a ∧ H1 a = some (.ins C dx fs) ∧ fs.lookup nm = none ∧ tk σ H1 fun zs H2 => zs.length = n ∧ sp (gV [x] zs) H2 Q E0
theorem go_mkn (q : ta σ H (MkR C nm n sp gV t σ Q)) : tMethKn C nm n sp gV ta t σ H Q := q
theorem go_mkr (h : H a = some (.ins C dx fs)) (hm : fs.lookup nm = none) (q : t σ H (KnR n sp gV [.ref a] Q)) : MkR C nm n sp gV t σ Q (.ref a) H := ⟨a, dx, fs, rfl, h, hm, q⟩
theorem go_isiD (h : Dp K H v (.tuple ds)) (q : Q (.bl true) H) : rIsi K [v, .ty "tuple"] H Q := by
  obtain ⟨b, xs, rfl, hs, _⟩ := h.tupE
  exact ⟨_, _, _, _, true, rfl, .ty _, tyT hs, kit_ty (by decide +kernel), q⟩
theorem go_lenD (h : Dp K H v (.tuple ds)) (q : Q (.int (ds.length : Int)) H) : rLenSeq K [v] H Q := by
  obtain ⟨b, xs, rfl, hs, ha⟩ := h.tupE
  exact ⟨b, xs, rfl, .inr hs, by rw [ha.len]; exact q⟩
theorem go_isB {a b : Bool} (q : Q (.bl (decide (a = b))) H) : rIsB (.bl a) (.bl b) H Q := ⟨a, b, rfl, rfl, q⟩
theorem go_notB {a b : Bool} (q : Q (.bl (!decide (a = b))) H) : rNotB (.bl a) (.bl b) H Q := ⟨a, b, rfl, rfl, q⟩
theorem go_eqS {a b : Str} (q : Q (.bl (decide (a = b))) H) : rEq (.str a) (.str b) H Q := ⟨rfl, by rw [decide_eq_decide.mpr (show V.str a = V.str b ↔ a = b by rw [V.str.injEq])]; exact q⟩
theorem go_neS {a b : Str} (q : Q (.bl (!decide (a = b))) H) : rNe (.str a) (.str b) H Q := ⟨rfl, by rw [decide_eq_decide.mpr (show V.str a = V.str b ↔ a = b by rw [V.str.injEq])]; exact q⟩
theorem go_eqB {a b : Bool} (q : Q (.bl (decide (a = b))) H) : rEq (.bl a) (.bl b) H Q := ⟨rfl, by rw [decide_eq_decide.mpr (show V.bl a = V.bl b ↔ a = b by rw [V.bl.injEq])]; exact q⟩
theorem go_powN {m' n' : Nat} (h : n' ≤ 1000000 ∧ m' < 2 ^ 63) (q : Q (.int ((m' ^ n' : Nat) : Int)) H) : rI CPow (fun i j => .int (i ^ j.toNat)) (.int (m' : Int)) (.int (n' : Int)) H Q :=
  ⟨_, _, rfl, rfl, ⟨by omega, by omega, by rw [Int.natAbs_natCast]; omega⟩, by show Q (.int ((m' : Int) ^ ((n' : Int).toNat))) H; rw [Int.toNat_natCast]; rw [Int.natCast_pow] at q; exact q⟩
theorem call_reprD' {X : Cx} {k : Nat} (ga : GA X.A) (hr : Room k X.A) (e : X.K = K := by (conv => lhs; whnf)) : CallR X (.builtin "repr") (rReprD K) := by
  subst e
  exact call_reprD ga hr
theorem go_reprD {d : PyData} (h : Dp K H (.ref a) d) (hs : d.showable = true ∧ d.hasDict = false ∧ d.depth ≤ 60 ∧ d.shown.length ≤ sizeLine) (q : Q (.str d.shown) H) : rReprD K [.ref a] H Q := ⟨a, d, rfl, h, hs.1, hs.2.1, hs.2.2.1, hs.2.2.2, q⟩
theorem go_reprT (h : Dp K H v (.tuple ds)) (hs : (PyData.tuple ds).showable = true ∧ (PyData.tuple ds).hasDict = false ∧ (PyData.tuple ds).depth ≤ 60 ∧ (PyData.tuple ds).shown.length ≤ sizeLine) (q : Q (.str (PyData.tuple ds).shown) H) : rReprD K [v] H Q := by
  obtain ⟨b, xs, rfl, _⟩ := h.tupE
  exact go_reprD h hs q
theorem pe_revT' {X : Cx} {e : Expr} {te : TE} {k : Nat} {p1 p2 p3 pos : Pos} (he : PE X e te) (eK : X.K = K := by (conv => lhs; whnf)) : PE X (.Subscript e (.Slice none none (some (.UnaryOp .USub (.Constant (.int 1) k p1) p2)) p3) pos) (tRevT K te) := by
  subst eK
  exact pe_revT he
def RvT (K : PySem.W.Frag) (Q : VK) : VK := fun x H1 => ∃ a xs, x = .ref a ∧ SqT K H1 a xs ∧ ∀ p, H1 p = none → Q (.ref p) (upd H1 p (.tup xs.reverse))
theorem go_revt (q : ta σ H (RvT K Q)) : tRevT K ta σ H Q := q
theorem go_rvt {xs ys : List V} (h : SqT K H a xs) (e : xs.reverse = ys) (q : ∀ p H', H p = none → Same H H' → H' p = some (.tup ys) → Q (.ref p) H') : RvT K Q (.ref a) H := ⟨a, xs, rfl, h, fun p hp => q p _ hp (same_new hp) (by rw [upd_same, e])⟩
theorem pg_unl' {X : Cx} {es : List Expr} {k : Nat} {pos : Pos} {tg : TGs} (n : Nat) (h : PGs X es tg) (eK : X.K = K := by (conv => lhs; whnf)) (hc : X.calm = true := by rfl)
    (hn : (assignEach es X.env).length = n := by rfl) (hst : (assignEach es X.env).findIdx? (·.1) = none := by rfl) : PG X (.Tuple es k pos) (gUnl K n tg) := by
  subst eK
  exact pg_unl hc h hn hst
theorem go_gunl {k : Nat} {gs : TGs} {xs : List V} {QS : L2.St → Hp → Prop} (h : SqL K H a xs) (hl : xs.length = k) (q : gs xs σ H QS) : gUnl K k gs (.ref a) σ H QS := ⟨a, xs, rfl, h, hl, q⟩
theorem pi_zipA' {X : Cx} {e1 e2 : Expr} {ta : TA} {p pos tpos : Pos} {elts : List Expr} {kk : Nat} (hg : Gl X "zip") (hm : X.mg "zip" = none) (ha : PA X [e1, e2] ta) (eK : X.K = K := by (conv => lhs; whnf)) (hs : starEach [e1, e2] X.env = (false, eval e1 X.env) :: starEach [e2] X.env := by rfl) (hpl : (backTo pos (starEach [e2] X.env)).any (·.1) = false := by rfl) : PI X (.Tuple elts kk tpos) (.Call (.Name "zip" p) [e1, e2] [] pos) (RZ.iZipA K ta) := by
  subst eK
  exact RZ.pi_zipA hg hm ha hs hpl
/-- C(..) -/
def MakR (C : Addr) (sp : Sp) (dvs : List V) (E : XK) (Q : VK) : List V → Hp → Prop := fun vs H1 => ∀ x dx, H1 x = none → H1 dx = none → dx ≠ x → sp (.ref x :: (vs ++ dvs)) (upd (upd H1 dx (.own x)) x (.ins C dx [])) (fun v H2 => v = .non ∧ Q (.ref x) H2) E
theorem go_make0 {dvs : List V} {E : XK} (q : t σ H (MakR C sp dvs E Q)) : tMake C sp dvs E t σ H Q := q
/-- x op= e -/
def AugK (i : Nat) (σ : L2.St) (n : L2.St → Hp → Prop) : VK := fun z H2 => n (σ.set i (some z)) H2
theorem go_aug {i : Nat} {ti : TIp} {n' b' c' : L2.St → Hp → Prop} {rt : VK} (h : σ[i]? = some (some x)) (q : ta σ H fun y H1 => ti x y H1 (AugK i σ n')) : tAug i ta ti ⟨n', rt, b', c'⟩ σ H := ⟨x, h, q⟩
theorem go_augk {i : Nat} {σ' : L2.St} {n' : L2.St → Hp → Prop} (e : σ.set i (some x) = σ') (q : n' σ' H) : AugK i σ n' x H := by subst e; exact q
def rMn : List V → Hp → VK → Prop := fun xs H Q => ∃ i j, xs = [.int i, .int j] ∧ Q (.int (if j < i then j else i)) H
def rMx : List V → Hp → VK → Prop := fun xs H Q => ∃ i j, xs = [.int i, .int j] ∧ Q (.int (if j > i then j else i)) H
def rIn1 : List V → Hp → VK → Prop := fun xs H Q => (∃ i, xs = [.int i] ∧ Q (.int i) H) ∨ ∃ k, xs = [.bl k] ∧ Q (.int (if k then 1 else 0)) H
def rAb : List V → Hp → VK → Prop := fun xs H Q => ∃ i, xs = [.int i] ∧ Q (.int (if i < 0 then -i else i)) H
def rStI : List V → Hp → VK → Prop := fun xs H Q => ∃ i, xs = [.int i] ∧ i.natAbs.log2 < 1920 ∧ Q (.str (toString i)) H
def rLnS : List V → Hp → VK → Prop := fun xs H Q => ∃ z, xs = [.str z] ∧ z.length ≤ sizeLine ∧ Q (.int z.length) H
def rAdS : R2 := fun x y H Q => ∃ i j, x = .str i ∧ y = .str j ∧ i.length + j.length ≤ sizeLine ∧ Q (.str (i ++ j)) H
def rIsNo : R2 := fun x y H Q => y = .non ∧ Q (.bl (decide (x = .non))) H
def rNotNo : R2 := fun x y H Q => y = .non ∧ Q (.bl (!decide (x = .non))) H
theorem call_min2' {X : Cx} (hc : X.calm = true) : CallR X (.builtin "min") rMn := call_min2 hc
theorem call_max2' {X : Cx} (hc : X.calm = true) : CallR X (.builtin "max") rMx := call_max2 hc
theorem call_int1' {X : Cx} : CallR X (.type "int") rIn1 := call_int1
theorem call_abs' {X : Cx} : CallR X (.builtin "abs") rAb := call_abs
theorem call_str_int' {X : Cx} : CallR X (.type "str") rStI := call_str_int
theorem call_len_str' {X : Cx} : CallR X (.builtin "len") rLnS := call_len_str
theorem op_add_str' {X : Cx} : OpR X (binaryOp .Add) rAdS := op_add_str
theorem op_isN' {X : Cx} : OpR X (compareOp .Is) rIsNo := op_isN
theorem op_notN' {X : Cx} : OpR X (compareOp .IsNot) rNotNo := op_notN
theorem go_min2 {m' n' : Nat} (q : Q (.int ((min m' n' : Nat) : Int)) H) : rMn [V.int (m' : Int), V.int (n' : Int)] H Q := by
  refine ⟨_, _, rfl, ?_⟩
  by_cases h : n' < m'
  · rw [if_pos (by omega)]
    rw [Nat.min_eq_right (by omega)] at q
    exact q
  · rw [if_neg (by omega)]
    rw [Nat.min_eq_left (by omega)] at q
    exact q
theorem go_max2 {m' n' : Nat} (q : Q (.int ((max m' n' : Nat) : Int)) H) : rMx [V.int (m' : Int), V.int (n' : Int)] H Q := by
  refine ⟨_, _, rfl, ?_⟩
  by_cases h : n' > m'
  · rw [if_pos (by omega)]
    rw [Nat.max_eq_right (by omega)] at q
    exact q
  · rw [if_neg (by omega)]
    rw [Nat.max_eq_left (by omega)] at q
    exact q
theorem go_int1 {i : Int} (q : Q (.int i) H) : rIn1 [V.int i] H Q := .inl ⟨i, rfl, q⟩
theorem go_intB {k : Bool} (q : Q (.int (((if k then 1 else 0 : Nat)) : Int)) H) : rIn1 [V.bl k] H Q := .inr ⟨k, rfl, by cases k <;> exact q⟩
theorem go_absN {m' : Nat} (q : Q (.int (m' : Int)) H) : rAb [V.int (m' : Int)] H Q := ⟨_, rfl, by rw [if_neg (by omega)]; exact q⟩
theorem go_isN (q : Q (.bl (decide (x = .non))) H) : rIsNo x .non H Q := ⟨rfl, q⟩
theorem go_notN (q : Q (.bl (!decide (x = .non))) H) : rNotNo x .non H Q := ⟨rfl, q⟩
theorem mi_fr {H0 : Hp} {k : Nat} (s : Mi a k H H') (n : H0 a = none) (h : Same H0 H) : Same H0 H' := fun c o e => s.2 c o (fun z => by rw [z, n] at e; cases e) (h c o e)
theorem free_of {H0 : Hp} (n : H a = none) (s : Same H0 H) : H0 a = none := s.free n
theorem lg_lt {x n : Nat} (h : x < 2 ^ n) (hn : 0 < n) : x.log2 < n := by
  rcases Nat.eq_zero_or_pos x with z | z
  · subst z; exact hn
  · exact (Nat.log2_lt (by omega)).mpr h
/-- a bound for numbers that are shown -/
def bigN : Nat := 10 ^ 400
theorem shw_pair {x y : Nat} (hx : x < bigN) (hy : y < bigN) : (PyData.tuple [.int x, .int y]).showable = true ∧ (PyData.tuple [.int x, .int y]).hasDict = false ∧ (PyData.tuple [.int x, .int y]).depth ≤ 60 ∧ (PyData.tuple [.int x, .int y]).shown.length ≤ sizeLine := by
  unfold bigN at hx hy
  have l : ∀ z : Nat, z < 10 ^ 400 → z.log2 < 1920 := fun z hz => lg_lt (Nat.lt_trans hz (by decide +kernel)) (by decide)
  have s : ∀ z : Nat, z < 10 ^ 400 → (PyData.shown (.int (z : Int))).length ≤ 401 := fun z hz => by
    have e := int_text_length_le10 (a := (z : Int)) (k := 400) (by decide) (by rw [Int.natAbs_natCast]; exact hz)
    show (Str.ofString (toString (z : Int))).length ≤ 401
    rw [PySem.ofString_length]; exact e
  refine ⟨?_, rfl, by simp [PyData.depth, PyData.depthAll], ?_⟩
  · simp only [PyData.showable, PyData.showableAll, Bool.and_true, Bool.and_eq_true, decide_eq_true_eq, Int.natAbs_natCast]
    exact ⟨l x hx, l y hy⟩
  · have := PyData.shown_le 401 (by decide) (.tuple [.int (x : Int), .int (y : Int)]) (by
      simp only [PyData.leavesShort, PyData.leavesShortAll, Bool.and_true, Bool.and_eq_true, decide_eq_true_eq]
      exact ⟨s x hx, s y hy⟩)
    refine Nat.le_trans this ?_
    have w : ∀ z : Nat, z < 10 ^ 400 → PyData.weight (.int (z : Int)) ≤ 1920 := fun z hz => by
      have := l z hz
      simp only [PyData.weight, Int.natAbs_natCast]
      split <;> omega
    have w1 := w x hx
    have w2 := w y hy
    simp only [PyData.weight, PyData.weightAll] at w1 w2 ⊢
    clear hx hy
    unfold sizeLine
    omega
theorem go_reprPr {x y : Nat} (h : Dp K H v (.tuple [.int x, .int y])) (hx : x < bigN) (hy : y < bigN) (q : Q (.str (PyData.tuple [.int x, .int y]).shown) H) : rReprD K [v] H Q := go_reprT h (shw_pair hx hy) q
end
end Mv
set_option Elab.async false
namespace T
open PySem L2 Mv
section
variable {K : PySem.W.Frag} {C a : Addr} {H H' : Hp} {v u : V} {rs qs : List (List Pm.Cut)} {Q : VK} {E : XK} {σ : L2.St} {t : TA} {sp : Sp} {m : Str} {k : Nat}
theorem up_plan (s : Same H H') (h : PlanAt K C H v rs) : PlanAt K C H' v rs := h.same s
theorem mi_plan (s : Mi a k H H') (hk : k ≠ 3) (h : PlanAt K C H v rs) : PlanAt K C H' v rs := by
  obtain ⟨b, dx, R, Pt, e, eb, h1, h2⟩ := h.ex
  refine ⟨⟨b, dx, R, Pt, e, s.2 b _ (fun z => ?_) eb, mi_dp s h1, mi_dp s h2⟩, h.ok⟩
  obtain ⟨⟨C', dx', fs, ea, hl⟩, _⟩ := s
  rw [z, ea] at eb
  cases eb
  exact hk hl.symm
/-- a method of a plan -/
theorem go_mep (h : PlanAt K C H v rs) (m1 : m ≠ "own_rounds") (m2 : m ≠ "own_parts") (m3 : m ≠ "own_growth") (q : t σ H fun vs H2 => sp (v :: vs) H2 Q E) : MeR C m sp [] E t σ Q v H := by
  obtain ⟨a, dx, fs, rfl, ea, hl⟩ := plan_obj h
  exact go_mer ea (hl m m1 m2 m3) q
/-- == of plans -/
theorem go_eqP (I : ClsI K C) (h1 : PlanAt K C H v rs) (h2 : PlanAt K C H u qs) (q : Q (.bl (decide (rs = qs))) H) : rEqO K C (sp_peq K C) v u H Q := by
  obtain ⟨a, dx, fs, rfl, ea, _⟩ := plan_obj h1
  obtain ⟨b, dy, fs', rfl, eb, _⟩ := plan_obj h2
  exact ⟨a, dx, fs, .ref C, rfl, ea, I.ty eb, I.nf, _, _, rs, qs, rfl, h1, h2, q⟩
theorem go_neP (I : ClsI K C) (h1 : PlanAt K C H v rs) (h2 : PlanAt K C H u qs) (q : Q (.bl (!decide (rs = qs))) H) : rNeO K C (sp_peq K C) v u H Q := by
  obtain ⟨a, dx, fs, rfl, ea, _⟩ := plan_obj h1
  obtain ⟨b, dy, fs', rfl, eb, _⟩ := plan_obj h2
  exact ⟨a, dx, fs, .ref C, rfl, ea, I.ty eb, I.nf, _, _, rs, qs, rfl, h1, h2, _, rfl, q⟩
theorem go_lenNm {ns : List Nat} (h : Dp K H v (dNm ns)) (q : Q (.int (ns.length : Int)) H) : rLenSeq K [v] H Q := go_lenD h (by rw [List.length_map]; exact q)
theorem go_isiNm {ns : List Nat} (h : Dp K H v (dNm ns)) (q : Q (.bl true) H) : rIsi K [v, .ty "tuple"] H Q := go_isiD h q
/-- the name can be shown -/
def NmShw (ns : List Nat) : Prop := (dNm ns).showable = true ∧ (dNm ns).hasDict = false ∧ (dNm ns).depth ≤ 60 ∧ (dNm ns).shown.length ≤ sizeLine
theorem go_reprNm {ns : List Nat} (h : Dp K H v (dNm ns)) (hs : NmShw ns) (q : Q (.str (dNm ns).shown) H) : rReprD K [v] H Q := go_reprT h hs q
theorem nd_nm (ns : List Nat) : (dNm ns).hasDict = false := by
  unfold dNm
  rw [PyData.hasDict]
  induction ns with
  | nil => rfl
  | cons n ns ih => rw [List.map_cons, PyData.hasDictAll, ih]; rfl
theorem go_isi {c : Bool} {D : Addr} {tv : Value} (h1 : TyX K H v tv) (h2 : PySem.W.kitOne K tv (.ref D) = some c) (q : Q (.bl c) H) : rIsi K [v, .ref D] H Q := ⟨_, _, _, _, c, rfl, .own D, h1, h2, q⟩
end
end T
set_option Elab.async false
namespace Pm
/-- the sign at a place of a round, the cuts from the last one on -/
def sg : List Cut → Nat → Nat → Nat
  | [], _, _ => 0
  | (a, p) :: r, x, y => if a = 0 then x % p + p * sg r (x / p) y else y % p + p * sg r x (y / p)
theorem sg_lt {r : List Cut} (h : ∀ c ∈ r, CutOk c) (x y : Nat) : sg r x y < size r := by
  induction r generalizing x y with
  | nil => simp [sg, size]
  | cons c r ih =>
    obtain ⟨a, p⟩ := c
    have h1 := h (a, p) (List.mem_cons_self ..)
    have hp : 0 < p := Nat.lt_of_lt_of_le (by decide) h1.2.1
    have hr : ∀ c ∈ r, CutOk c := fun c hc => h c (List.mem_cons_of_mem _ hc)
    have key : ∀ z u : Nat, u < size r → z % p + p * u < p * size r := fun z u hu => by
      have hm := Nat.mod_lt z hp
      calc z % p + p * u < p + p * u := by omega
        _ = p * (u + 1) := by rw [Nat.mul_add, Nat.mul_one, Nat.add_comm]
        _ ≤ p * size r := Nat.mul_le_mul_left p hu
    simp only [sg, size]
    split
    · exact key _ _ (ih hr _ _)
    · exact key _ _ (ih hr _ _)
theorem al_sg {r : List Cut} (h : ∀ c ∈ r, CutOk c) {x y : Nat} (hx : x < wid r 0) (hy : y < wid r 1) : al r (sg r x y) 0 = x ∧ al r (sg r x y) 1 = y := by
  induction r generalizing x y with
  | nil => simp [wid] at hx hy; simp [al, hx, hy]
  | cons c r ih =>
    obtain ⟨a, p⟩ := c
    have h1 := h (a, p) (List.mem_cons_self ..)
    have hp : 0 < p := Nat.lt_of_lt_of_le (by decide) h1.2.1
    have hr : ∀ c ∈ r, CutOk c := fun c hc => h c (List.mem_cons_of_mem _ hc)
    have ha : a = 0 ∨ a = 1 := by have := h1.1; simp at this; omega
    have m1 : ∀ z u : Nat, (z % p + p * u) % p = z % p := fun z u => by rw [Nat.add_mul_mod_self_left, Nat.mod_mod]
    have d1 : ∀ z u : Nat, (z % p + p * u) / p = u := fun z u => by rw [Nat.add_mul_div_left _ _ hp, Nat.div_eq_of_lt (Nat.mod_lt z hp), Nat.zero_add]
    rcases ha with rfl | rfl
    · simp only [wid, if_true, Nat.zero_ne_one, if_false, Nat.one_mul] at hx hy
      have hx' : x / p < wid r 0 := Nat.div_lt_of_lt_mul hx
      obtain ⟨i0, i1⟩ := ih hr hx' hy
      simp only [al, sg, if_true, Nat.zero_ne_one, if_false, m1, d1, i0, i1, and_true]
      exact Nat.mod_add_div x p
    · simp only [wid, if_true, Nat.one_ne_zero, if_false, Nat.one_mul] at hx hy
      have hy' : y / p < wid r 1 := Nat.div_lt_of_lt_mul hy
      obtain ⟨i0, i1⟩ := ih hr hx hy'
      simp only [al, sg, if_true, Nat.one_ne_zero, if_false, m1, d1, i0, i1, true_and]
      exact Nat.mod_add_div y p
/-- the sign of phase k -/
def G (rs : List (List Cut)) (k x y : Nat) : Nat := sg (rnd rs k).reverse x y
theorem RdsOk.G_lt {rs : List (List Cut)} (h : RdsOk rs) (k x y : Nat) : G rs k x y < Pm.S rs k := by
  have := sg_lt (r := (Pm.rnd rs k).reverse) (fun c hc => h.cut k c (List.mem_reverse.mp hc)) x y
  rw [size_rev] at this
  exact this
theorem RdsOk.A_G {rs : List (List Cut)} (h : RdsOk rs) {k x y : Nat} (hx : x < Pm.W rs 0 k) (hy : y < Pm.W rs 1 k) : A rs 0 k (G rs k x y) = x ∧ A rs 1 k (G rs k x y) = y := by
  refine al_sg (r := (Pm.rnd rs k).reverse) (fun c hc => h.cut k c (List.mem_reverse.mp hc)) ?_ ?_
  · rw [wid_rev]; exact hx
  · rw [wid_rev]; exact hy
theorem RdsOk.G_A {rs : List (List Cut)} (h : RdsOk rs) {k s : Nat} (hs : s < Pm.S rs k) : G rs k (A rs 0 k s) (A rs 1 k s) = s := by
  have e := h.A_G (h.A_lt 0 k s) (h.A_lt 1 k s)
  refine al_inj (r := (Pm.rnd rs k).reverse) (fun c hc => h.cut k c (List.mem_reverse.mp hc)) ?_ ?_ e.1 e.2
  · rw [size_rev]; exact h.G_lt _ _ _
  · rw [size_rev]; exact hs
/-- the signs of a number pair, the last one first -/
def back (rs : List (List Cut)) : Nat → Nat → Nat → List Nat
  | 0, _, _ => []
  | k + 1, x, y => G rs k (x % W rs 0 k) (y % W rs 1 k) :: back rs k (x / W rs 0 k) (y / W rs 1 k)
def name (rs : List (List Cut)) (f x y : Nat) : List Nat := (back rs f x y).reverse
theorem back_len (rs : List (List Cut)) : ∀ f x y, (back rs f x y).length = f
  | 0, _, _ => rfl
  | f + 1, x, y => by simp [back, back_len rs f]
theorem name_len (rs : List (List Cut)) (f x y : Nat) : (name rs f x y).length = f := by simp [name, back_len]
theorem name_succ (rs : List (List Cut)) (f x y : Nat) : name rs (f + 1) x y = name rs f (x / W rs 0 f) (y / W rs 1 f) ++ [G rs f (x % W rs 0 f) (y % W rs 1 f)] := by simp [name, back]
theorem getD_app_left {a b : List Nat} {k : Nat} (h : k < a.length) : (a ++ b).getD k 0 = a.getD k 0 := by
  rw [List.getD_eq_getElem?_getD, List.getElem?_append_left h, ← List.getD_eq_getElem?_getD]
theorem getD_app_last (a : List Nat) (g : Nat) : (a ++ [g]).getD a.length 0 = g := by
  rw [List.getD_eq_getElem?_getD, List.getElem?_append_right (Nat.le_refl _)]; simp
theorem RdsOk.name_ok {rs : List (List Cut)} (h : RdsOk rs) : ∀ f x y k, k < f → (name rs f x y).getD k 0 < Pm.S rs k
  | 0, _, _, k, hk => by omega
  | f + 1, x, y, k, hk => by
    rw [name_succ]
    have hl := name_len rs f (x / Pm.W rs 0 f) (y / Pm.W rs 1 f)
    rcases Nat.lt_or_ge k f with z | z
    · rw [getD_app_left (by omega)]; exact RdsOk.name_ok h f _ _ k z
    · have : k = (name rs f (x / Pm.W rs 0 f) (y / Pm.W rs 1 f)).length := by omega
      subst this
      rw [getD_app_last, hl]
      exact h.G_lt _ _ _
theorem nm_name {rs : List (List Cut)} (h : RdsOk rs) : ∀ f x y, x < cnt rs 0 f → y < cnt rs 1 f → nm rs 0 (fun k => (name rs f x y).getD k 0) f = x ∧ nm rs 1 (fun k => (name rs f x y).getD k 0) f = y
  | 0, x, y, hx, hy => by simp [cnt] at hx hy; simp [nm, hx, hy]
  | f + 1, x, y, hx, hy => by
    have w0 := h.W 0 f
    have w1 := h.W 1 f
    have hx' : x / Pm.W rs 0 f < cnt rs 0 f := Nat.div_lt_of_lt_mul (by rw [Nat.mul_comm]; exact hx)
    have hy' : y / Pm.W rs 1 f < cnt rs 1 f := Nat.div_lt_of_lt_mul (by rw [Nat.mul_comm]; exact hy)
    obtain ⟨i0, i1⟩ := nm_name h f _ _ hx' hy'
    have hl := name_len rs f (x / Pm.W rs 0 f) (y / Pm.W rs 1 f)
    have a := h.A_G (k := f) (Nat.mod_lt x w0) (Nat.mod_lt y w1)
    have eq : ∀ ax, nm rs ax (fun k => (name rs (f + 1) x y).getD k 0) f = nm rs ax (fun k => (name rs f (x / Pm.W rs 0 f) (y / Pm.W rs 1 f)).getD k 0) f := fun ax => nm_congr fun k hk => by
      rw [name_succ, getD_app_left (by omega)]
    have lst : (name rs (f + 1) x y).getD f 0 = G rs f (x % Pm.W rs 0 f) (y % Pm.W rs 1 f) := by
      rw [name_succ]
      have := getD_app_last (name rs f (x / Pm.W rs 0 f) (y / Pm.W rs 1 f)) (G rs f (x % Pm.W rs 0 f) (y % Pm.W rs 1 f))
      rwa [hl] at this
    simp only [nm, eq, i0, i1, lst, a.1, a.2]
    exact ⟨by rw [Nat.mul_comm]; exact Nat.div_add_mod x _, by rw [Nat.mul_comm]; exact Nat.div_add_mod y _⟩
/-- the name of the number pair of a name -/
theorem name_nm {rs : List (List Cut)} (h : RdsOk rs) {ns : List Nat} (hn : ∀ k, k < ns.length → ns.getD k 0 < Pm.S rs k) : name rs ns.length (nm rs 0 (fun k => ns.getD k 0) ns.length) (nm rs 1 (fun k => ns.getD k 0) ns.length) = ns := by
  have hx := h.nm_lt 0 (fun k => ns.getD k 0) ns.length
  have hy := h.nm_lt 1 (fun k => ns.getD k 0) ns.length
  have e := nm_name h ns.length _ _ hx hy
  have hl := name_len rs ns.length (nm rs 0 (fun k => ns.getD k 0) ns.length) (nm rs 1 (fun k => ns.getD k 0) ns.length)
  have := h.inj (f := fun k => (name rs ns.length (nm rs 0 (fun k => ns.getD k 0) ns.length) (nm rs 1 (fun k => ns.getD k 0) ns.length)).getD k 0) (g := fun k => ns.getD k 0) (n := ns.length) (fun k hk => h.name_ok _ _ _ k hk) hn e.1 e.2
  refine List.ext_getElem hl fun k h1 h2 => ?_
  have t := this k h2
  have gd : ∀ (l : List Nat) (hk : k < l.length), l.getD k 0 = l[k] := fun l hk => by rw [List.getD_eq_getElem?_getD, List.getElem?_eq_getElem hk]; rfl
  exact ((gd _ h1).symm.trans t).trans (gd _ h2)
/-! a plan with its axes exchanged -/
def tu (c : Cut) : Cut := (1 - c.1, c.2)
theorem wid_tu {r : List Cut} (h : ∀ c ∈ r, CutOk c) : wid (r.map tu) 0 = wid r 1 ∧ wid (r.map tu) 1 = wid r 0 := by
  induction r with
  | nil => exact ⟨rfl, rfl⟩
  | cons c r ih =>
    obtain ⟨a, p⟩ := c
    have h1 := h (a, p) (List.mem_cons_self ..)
    obtain ⟨i0, i1⟩ := ih fun c hc => h c (List.mem_cons_of_mem _ hc)
    have ha : a = 0 ∨ a = 1 := by have := h1.1; simp at this; omega
    rcases ha with rfl | rfl <;> simp [wid, tu, i0, i1]
theorem size_tu (r : List Cut) : size (r.map tu) = size r := by
  induction r with
  | nil => rfl
  | cons c r ih => obtain ⟨a, p⟩ := c; simp [size, tu, ih]
theorem cut_tu {c : Cut} (h : CutOk c) : CutOk (tu c) := ⟨by have := h.1; simp [tu]; omega, h.2⟩
theorem rnd_tu {r : List Cut} (h : RndOk r) : RndOk (r.map tu) :=
  ⟨by rw [List.length_map]; exact h.1, by rw [List.length_map]; exact h.2.1, fun c hc => by obtain ⟨d, hd, rfl⟩ := List.mem_map.mp hc; exact cut_tu (h.2.2.1 d hd), by rw [size_tu]; exact h.2.2.2⟩
theorem tot_tu {rs : List (List Cut)} (h : ∀ r ∈ rs, RndOk r) : tot (rs.map (·.map tu)) 0 = tot rs 1 ∧ tot (rs.map (·.map tu)) 1 = tot rs 0 := by
  unfold tot
  induction rs with
  | nil => exact ⟨rfl, rfl⟩
  | cons r rs ih =>
    obtain ⟨i0, i1⟩ := ih fun r hr => h r (List.mem_cons_of_mem _ hr)
    have w := wid_tu (h r (List.mem_cons_self ..)).2.2.1
    simp only [List.map_cons, List.foldr_cons]
    rw [i0, i1, w.1, w.2]
    exact ⟨rfl, rfl⟩
def turn (rs : List (List Cut)) : List (List Cut) := rs.map (·.map tu)
theorem RdsOk.turn {rs : List (List Cut)} (h : RdsOk rs) : RdsOk (turn rs) := by
  have t := tot_tu h.2.2.1
  refine ⟨by rw [Pm.turn, List.length_map]; exact h.1, by rw [Pm.turn, List.length_map]; exact h.2.1, fun r hr => ?_, ?_⟩
  · obtain ⟨q, hq, rfl⟩ := List.mem_map.mp hr
    exact rnd_tu (h.2.2.1 q hq)
  · unfold Pm.turn
    rw [t.1, t.2]
    exact h.2.2.2.symm
theorem rnd_turn (rs : List (List Cut)) (k : Nat) : rnd (turn rs) k = (rnd rs k).map tu := by
  unfold rnd turn
  rw [List.length_map, List.getD_eq_getElem?_getD, List.getD_eq_getElem?_getD, List.getElem?_map]
  cases rs[k % rs.length]? <;> rfl
theorem RdsOk.W_turn {rs : List (List Cut)} (h : RdsOk rs) (k : Nat) : Pm.W (Pm.turn rs) 0 k = Pm.W rs 1 k ∧ Pm.W (Pm.turn rs) 1 k = Pm.W rs 0 k := by
  unfold Pm.W
  rw [rnd_turn]
  exact wid_tu (h.cut k)
theorem S_turn (rs : List (List Cut)) (k : Nat) : Pm.S (turn rs) k = Pm.S rs k := by
  unfold S
  rw [rnd_turn, size_tu]
theorem al_tu {r : List Cut} (h : ∀ c ∈ r, CutOk c) (s : Nat) : al (r.map tu) s 0 = al r s 1 ∧ al (r.map tu) s 1 = al r s 0 := by
  induction r generalizing s with
  | nil => exact ⟨rfl, rfl⟩
  | cons c r ih =>
    obtain ⟨a, p⟩ := c
    have h1 := h (a, p) (List.mem_cons_self ..)
    obtain ⟨i0, i1⟩ := ih (fun c hc => h c (List.mem_cons_of_mem _ hc)) (s / p)
    have ha : a = 0 ∨ a = 1 := by have := h1.1; simp at this; omega
    rcases ha with rfl | rfl <;> simp [al, tu, i0, i1]
theorem RdsOk.A_turn {rs : List (List Cut)} (h : RdsOk rs) (k s : Nat) : A (Pm.turn rs) 0 k s = A rs 1 k s ∧ A (Pm.turn rs) 1 k s = A rs 0 k s := by
  unfold A
  rw [rnd_turn, ← List.map_reverse]
  exact al_tu (fun c hc => h.cut k c (List.mem_reverse.mp hc)) s
theorem RdsOk.nm_turn {rs : List (List Cut)} (h : RdsOk rs) (f : Nat → Nat) (n : Nat) : nm (Pm.turn rs) 0 f n = nm rs 1 f n ∧ nm (Pm.turn rs) 1 f n = nm rs 0 f n := by
  induction n with
  | zero => exact ⟨rfl, rfl⟩
  | succ n ih =>
    have w := h.W_turn n
    have a := h.A_turn n (f n)
    simp only [nm, ih.1, ih.2, w.1, w.2, a.1, a.2]
    exact ⟨trivial, trivial⟩
theorem RdsOk.cnt_turn {rs : List (List Cut)} (h : RdsOk rs) (n : Nat) : cnt (Pm.turn rs) 0 n = cnt rs 1 n ∧ cnt (Pm.turn rs) 1 n = cnt rs 0 n := by
  induction n with
  | zero => exact ⟨rfl, rfl⟩
  | succ n ih =>
    have w := h.W_turn n
    simp only [cnt, ih.1, ih.2, w.1, w.2]
    exact ⟨trivial, trivial⟩
theorem turn_turn {rs : List (List Cut)} (h : RdsOk rs) : turn (turn rs) = rs := by
  unfold turn
  rw [List.map_map]
  conv => rhs; rw [← List.map_id rs]
  refine List.map_congr_left fun r hr => ?_
  show (r.map tu).map tu = r
  rw [List.map_map]
  conv => rhs; rw [← List.map_id r]
  refine List.map_congr_left fun c hc => ?_
  have := ((h.2.2.1 r hr).2.2.1 c hc).1
  show (1 - (1 - c.1), c.2) = c
  rw [show 1 - (1 - c.1) = c.1 by omega]
end Pm
set_option Elab.async false
set_option maxRecDepth 100000
set_option maxHeartbeats 4000000
namespace T
open PySem L2 Mv
abbrev s_wantfine : Stmt := top 41
theorem sc_wantfine : FnScope ["value"] ["value"] (defScope s_wantfine) := ⟨rfl, rfl, rfl, by decide +kernel, rfl, by decide +kernel, by decide +kernel⟩
abbrev s_pcounts : Stmt := inClass (top 47) 14
theorem sc_pcounts : FnScope ["self", "f"] ["self", "f"] (defScope s_pcounts) := ⟨rfl, rfl, rfl, by decide +kernel, rfl, by decide +kernel, by decide +kernel⟩
section
variable {P : Program} {w : World} {K : PySem.W.Frag} {mg : Str → Option Value} {base : Heap} {C AX : Addr}
def sp_wantfine : Sp := fun vs H Q _ => ∃ (f : Nat), vs = [.int f] ∧ f ≤ 1000 ∧ Q .non H
theorem c_wantfine {f : Nat} {H : Hp} {Q : VK} {E : XK} (h0 : f ≤ 1000) (q : Q .non H) : sp_wantfine  [.int f] H Q E := ⟨_, rfl, h0, q⟩
theorem ok_wantfine {f : Addr} {fd : FuncData} (F : Df K "want_fineness" "want_fineness" s_wantfine [] f fd) (G : PlG K mg C AX) (cCo : Ca P w K mg base 2 "is_count" (sp_count K) []) : FnOk P w K mg base CX0 3 f fd ["value"] sp_wantfine := by
  refine dfOk F sc_wantfine (fun vs H Q E h => ?_) (fun cdv A outer s H vs Q E hr h => ?_)
  · obtain ⟨f, rfl, _⟩ := h
    rfl
  · obtain ⟨f, rfl, hf, q⟩ := h
    refine ⟨_, (pss_cons (ps_if (pt_not (pt_val (pe_ca cCo hr (by decide) (by rfl) (pa_cons (pv 0) pa_nil))))
  pss_never
  pss_nil)
  (pss_one (ps_if (pt_cmpR op_gt (pv 0) (pe_globI G.fine (by rfl)) (nomark _))
  pss_never
  pss_nil))), ?_⟩
    refine ⟨_, rfl, tnil (count_int (by omega) ⟨_, rfl, iteF ?_⟩)⟩
    refine ⟨_, rfl, _, _, rfl, rfl, _, rfl, ?_⟩
    rw [decide_eq_false (show ¬ ((1000 : Int) < (f : Int)) by omega)]
    exact iteF q
def sp_pcounts (K : PySem.W.Frag) (C : Addr) : Sp := fun vs H Q _ => ∃ (v : V) (rs : List (List Pm.Cut)) (f : Nat), vs = [v, .int f] ∧ PlanAt K C H v rs ∧ f ≤ 1000 ∧
  ∀ t H', Same H H' → H' t = some (.tup [.int (Pm.cnt rs 0 f), .int (Pm.cnt rs 1 f)]) → Q (.ref t) H'
theorem c_pcounts {K : PySem.W.Frag} {C : Addr} {v : V} {rs : List (List Pm.Cut)} {f : Nat} {H : Hp} {Q : VK} {E : XK} (h0 : PlanAt K C H v rs) (h1 : f ≤ 1000) (q : ∀ t H', Same H H' → H' t = some (.tup [.int (Pm.cnt rs 0 f), .int (Pm.cnt rs 1 f)]) → Q (.ref t) H') : sp_pcounts K C [v, .int f] H Q E := ⟨_, _, _, rfl, h0, h1, q⟩
theorem ok_pcounts {f : Addr} {fd : FuncData} (F : Df K "counts" "Plan.counts" s_pcounts [] f fd) (cWf : Ca P w K mg base 3 "want_fineness" sp_wantfine []) (cPr : Me P w K mg base 1 C "product_of" (sp_prod K C) []) : FnOk P w K mg base CX0 4 f fd ["self", "f"] (sp_pcounts K C) := by
  refine dfOk F sc_pcounts (fun vs H Q E h => ?_) (fun cdv A outer s H vs Q E hr h => ?_)
  · obtain ⟨v, rs, f, rfl, _⟩ := h
    rfl
  · obtain ⟨v, rs, f, rfl, hp, hf, q⟩ := h
    obtain ⟨a, dx, R, Pt, rfl, ea, hR, hP⟩ := hp.ex
    refine ⟨_, (pss_cons (ps_expr (pe_ca cWf hr (by decide) (by rfl) (pa_cons (pv 1) pa_nil)))
  (pss_one (ps_ret (pe_me cPr hr (by decide) (pv 0) (pa_cons (pv 1) pa_nil))))), ?_⟩
    refine ⟨_, rfl, f, rfl, hf, ?_⟩
    exact ⟨_, rfl, a, dx, _, rfl, ea, rfl, _, rfl, a, dx, _, Pt, rs, f, rfl, by omega, ea, rfl, hP, hp.ok, q⟩
/-! sign_in -/
theorem dr_cons {α : Type} {l : List α} {i : Nat} {c : α} (h : l[i]? = some c) : l.drop i = c :: l.drop (i + 1) := by
  have hi := (List.getElem?_eq_some_iff.mp h).1
  rw [List.drop_eq_getElem_cons hi]
  congr 1
  rw [List.getElem?_eq_getElem hi] at h
  exact Option.some.inj h
theorem upd_id {H : Hp} {a : Addr} {o : HO} (h : H a = some o) : upd H a o = H := by
  funext b
  by_cases e : b = a
  · subst e; rw [upd_same]; exact h.symm
  · rw [upd_ne e]
/-! signs_of -/
/-- the name of a cell's number pair -/
theorem name_back {rs : List (List Pm.Cut)} (hok : Pm.RdsOk rs) {ns : List Nat} (h : NmOk rs ns) : Pm.name rs ns.length (Pm.nm rs 0 (fun k => ns.getD k 0) ns.length) (Pm.nm rs 1 (fun k => ns.getD k 0) ns.length) = ns := Pm.name_nm hok h
theorem NmOk.name {rs : List (List Pm.Cut)} (hok : Pm.RdsOk rs) (f x y : Nat) : NmOk rs (Pm.name rs f x y) := fun k hk => hok.name_ok f x y k (by rwa [Pm.name_len] at hk)
end
end T
set_option Elab.async false
set_option maxRecDepth 100000
set_option maxHeartbeats 4000000
/-! sorted of lists of tuples of ints of one length, however many. -/
namespace SrtO
open PySem PySem.Spec PyProof.Rows
section
variable {prog : Program} {w : World} {A : Around} {E : Value → Shared → Prop} {s : Shared}
theorem mv_swo (r : Value → Int) : Swo fun v u => decide (r v < r u) := by
  refine ⟨fun x y h => ?_, fun x y z h1 h2 => ?_⟩
  · have := of_decide_eq_true h
    exact decide_eq_false (by omega)
  · have a := of_decide_eq_false h1
    have b := of_decide_eq_false h2
    exact decide_eq_false (by omega)
theorem mv_cmp {vs : List Value} {d : Nat} {B : Int} {r : Value → Int} (x : TS.TupsOk s.heap d B vs) (hr : ∀ v, v ∈ vs → ∀ ns, TS.TupInts s.heap v ns → r v = TS.code B ns) : Cmp prog w A s (tuples' true) (fun p => p.1 ∈ vs) (lt2 fun v u => decide (r v < r u)) := by
  intro p q hm hm'
  obtain ⟨ns, t1, l1, b1⟩ := x _ hm
  obtain ⟨ms, t2, l2, b2⟩ := x _ hm'
  show wpAny (model prog w) A (keyLt' (tuples' true) p.1 q.1) (fun c s' => s' = s ∧ c = decide (r p.1 < r q.1)) (fun _ _ => False) s
  rw [hr _ hm ns t1, hr _ hm' ms t2]
  obtain ⟨a, xs, e, ⟨o, ho, hc, n, hd⟩, i1⟩ := t1
  obtain ⟨a', ys, e', ⟨o', ho', hc', n', hd'⟩, i2⟩ := t2
  rw [e, e']
  refine PySem.W.kat_lt ho hd ho' hd' ?_
  have z1 := i1.length
  have z2 := i2.length
  rw [show decide (xs.size < ys.size) = false from decide_eq_false (by simp at z1 z2; omega)]
  exact TS.lex_ints 0 i1 i2 (by omega) b1 b2 ⟨rfl, rfl⟩
theorem mv_sortable {a : Addr} {vs : List Value} {d : Nat} {B : Int} {r : Value → Int} (h0 : 0 < vs.length) (hd : 1 ≤ d) (x : TS.TupsOk s.heap d B vs) (hr : ∀ v, v ∈ vs → ∀ ns, TS.TupInts s.heap v ns → r v = TS.code B ns) (ha : ∀ o, s.heap.get? a = some o → o.cls ≠ .type "tuple") :
    SortableO prog w A s a vs fun v u => decide (r v < r u) := by
  intro h' keep
  have kp : ∀ b o, s.heap.get? b = some o → o.cls = .type "tuple" → h'.get? b = some o := fun b o e c => keep b o (fun z => by subst z; exact ha o e c) e
  have x' := x.keeps kp
  obtain ⟨fs, h1, h2, h3⟩ := TS.firsts_of hd vs x'
  refine ⟨tuples' true, fun Q E hq => ?_, mv_cmp (s := { s with heap := h' }) x' fun v hv ns t => ?_⟩
  · refine PySem.W.kat_kind (T := .type "int") h1 (by omega) (fun f hm => ?_) (by rfl) ?_
    · obtain ⟨m, t, rfl⟩ := h3 f hm
      exact PySem.W.Looks.now
    · have e : (Value.type "int" != Value.type "tuple") = true := by first | decide +kernel | rfl | decide
      rw [e]
      exact hq
  · obtain ⟨ns0, t0, _⟩ := x v hv
    have e : ns = ns0 := t.ints.symm.trans (t0.keeps kp).ints
    rw [e]
    exact hr v hv ns0 t0
theorem mv_sorted {l : Addr} {vs : List Value} {d : Nat} {B : Int} {r : Value → Int} {Q : Value → Shared → Prop} (hl : s.heap.IsList l vs.toArray) (hz : vs.length ≤ sizeLine) (hd : 1 ≤ d) (x : TS.TupsOk s.heap d B vs) (hr : ∀ v, v ∈ vs → ∀ ns, TS.TupInts s.heap v ns → r v = TS.code B ns)
    (h : ∀ (h' : Heap) (d : Addr) (out : List Value), Srtd (fun v u => decide (r v < r u)) out → Stb (fun v u => decide (r v < r u)) out vs → (∀ b o, s.heap.get? b = some o → h'.get? b = some o) → s.heap.objs.size ≤ d → (∃ n, h'.get? d = some (seqObj "list" out.toArray n)) → Q (.ref d) { s with heap := h' }) :
    wpAny (model prog w) A (call (.builtin "sorted") [.ref l]) Q E s := by
  refine sorted_ord (mv_swo r) hl hz (fun h2 h₁ a ha kk => ?_) fun out hs hb => ?_
  · have kp : ∀ b o, s.heap.get? b = some o → o.cls = .type "tuple" → h₁.get? b = some o := fun b o e _ => (kk b o e).2
    refine mv_sortable (s := { s with heap := h₁ }) (by omega) hd (x.keeps kp) (fun v hv ns t => ?_) fun o e => ?_
    · obtain ⟨ns0, t0, _⟩ := x v hv
      have e : ns = ns0 := t.ints.symm.trans (t0.keeps kp).ints
      rw [e]
      exact hr v hv ns0 t0
    · have e' : some o = some (seqObj "list" vs.toArray 0) := e.symm.trans ha
      cases e'
      intro c
      exact absurd (Value.type.inj c) (by decide)
  · exact h _ _ out hs hb (fun b o e => sortedAll_old e) (Nat.le_succ _) (sortedAll_at s.heap vs out.toArray)
end
end SrtO
namespace Mv
open PySem PySem.Spec PyProof.Rows L2
/-- a tuple of ints as data -/
def tI (k : List Int) : PyData := .tuple (k.map PyData.int)
/-- sorted(xs), xs a list of tuples of d ints each in [0, B) -/
def rSortT (K : PySem.W.Frag) : List V → Hp → VK → Prop := fun vs H Q => ∃ (a : Addr) (xs : List V) (ks : List (List Int)) (d : Nat) (B : Int), vs = [V.ref a] ∧ SqL K H a xs ∧ DpAll K H xs (ks.map tI) ∧ 1 ≤ d ∧ (∀ k ∈ ks, k.length = d ∧ TS.Bd B k) ∧
  ∀ (ys : List V) (js : List (List Int)) (p : Addr) (H' : Hp), js.Perm ks → js.Pairwise (fun x y => TS.code B x ≤ TS.code B y) → H p = none → Same H H' → H' p = some (.lst ys) → DpAll K H' ys (js.map tI) → Q (.ref p) H'
section
variable {K : PySem.W.Frag}
theorem tups_raw {X : Cx} {pins : List (Addr × Obj)} {σ : L2.St} {H : Hp} {s : Shared} (I : Inv X pins σ H s) : ∀ {xs : List V} {ks : List (List Int)} {its : List Value}, DpAll X.K H xs (ks.map tI) → Vals xs its →
    its.map (TS.intsOf s.heap) = ks ∧ ∀ u ∈ its, ∃ t ns, u = Value.ref t ∧ ns ∈ ks ∧ SqT X.K H t (ns.map V.int) ∧ TS.TupInts s.heap u ns
  | _, [], _, .nil, .nil => ⟨rfl, fun u hu => by simp at hu⟩
  | _, k :: ks, _, .cons a h, .cons (b := u) r rs => by
    obtain ⟨e, h2⟩ := tups_raw I h rs
    obtain ⟨t, rfl, ht⟩ := Dp.tupIE a
    obtain rfl : u = Value.ref t := r
    have raw := tupI_raw I ht
    refine ⟨by rw [List.map_cons, raw.ints, e], fun v hv => ?_⟩
    rcases List.mem_cons.mp hv with rfl | hv
    · exact ⟨t, k, rfl, List.mem_cons_self .., ht, raw⟩
    · obtain ⟨t', ns, e1, e2, e3, e4⟩ := h2 v hv
      exact ⟨t', ns, e1, List.mem_cons_of_mem _ e2, e3, e4⟩
theorem tups_back {H : Hp} {h : Heap} : ∀ {out : List Value}, (∀ u ∈ out, ∃ t ns, u = Value.ref t ∧ SqT K H t (ns.map V.int) ∧ TS.TupInts h u ns) → DpAll K H (out.map backV) ((out.map (TS.intsOf h)).map tI)
  | [], _ => .nil
  | u :: out, hu => by
    obtain ⟨t, ns, rfl, ht, raw⟩ := hu u (List.mem_cons_self ..)
    refine .cons ?_ (tups_back fun v hv => hu v (List.mem_cons_of_mem _ hv))
    rw [raw.ints]
    exact Dp.tupI ht
theorem cr_sortT' {X : Cx} (e : X.K = K := by (conv => lhs; whnf)) : CallR X (.builtin "sorted") (rSortT K) := by
  subst e
  intro pins s σ H vs us Q I r h
  obtain ⟨a, xs, ks, d, B, rfl, hs, hx, hd, hk, q⟩ := h
  obtain ⟨its, rv, hl, hz⟩ := I.list hs
  obtain ⟨u, rfl, ru⟩ := vals1 r
  obtain rfl : u = Value.ref a := ru
  obtain ⟨ek, hraw⟩ := tups_raw I hx rv
  refine SrtO.mv_sorted (r := fun v => TS.code B (TS.intsOf s.heap v)) hl.isList (by rw [← rv.length]; exact hz) hd (fun v hv => ?_) (fun v hv ns t => by rw [t.ints]) fun h' p out h1 h2 kp hp hn => ?_
  · obtain ⟨t, ns, rfl, hm, _, raw⟩ := hraw v hv
    exact ⟨ns, raw, hk ns hm⟩
  · have h3 : ∀ u ∈ out, ∃ t ns, u = Value.ref t ∧ SqT X.K H t (ns.map V.int) ∧ TS.TupInts s.heap u ns := fun u hu => by
      obtain ⟨t, ns, e1, _, e3, e4⟩ := hraw u (h2.perm.mem_iff.mp hu)
      exact ⟨t, ns, e1, e3, e4⟩
    obtain ⟨n, hn⟩ := hn
    have hfr : H p = none := I.hok.fresh hp
    have hvb : Vals (out.map backV) out := vals_back fun u hu => by
      obtain ⟨t, _, e1, _⟩ := h3 u hu
      exact ⟨t, e1⟩
    refine ⟨.ref p, upd H p (.lst (out.map backV)), I.laid (t' := s.toks) kp hp ⟨?_, out, n, hvb, hn⟩, rfl, ?_⟩
    · rw [List.length_map, h2.len, ← rv.length]; exact hz
    · refine q (out.map backV) (out.map (TS.intsOf s.heap)) p _ (by rw [← ek]; exact h2.perm.map _) ?_ hfr (same_new hfr) upd_same ((tups_back h3).up (same_new hfr))
      rw [List.pairwise_map]
      exact h1.imp fun {x y} z => by
        have := of_decide_eq_false z
        omega
end
end Mv
set_option Elab.async false
set_option maxRecDepth 100000
set_option maxHeartbeats 4000000
/-! Methods of lists, three names at once, // of great numbers: for the steps. -/
namespace Mv
open PySem PySem.Spec PyProof.Rows L2
def BmR (K : PySem.W.Frag) (T : String) (r : V → List V → Hp → VK → Prop) (t : TA) (σ : L2.St) (Q : VK) : VK := fun x H1 => tyV K T x H1 ∧ t σ H1 fun xs H2 => r x xs H2 Q
def Par3 (i j l : Nat) (n : L2.St → Hp → Prop) (σ : L2.St) : List V → Hp → Prop := fun vs H1 => ∃ v w u, vs = [v, w, u] ∧ n (((σ.set i (some v)).set j (some w)).set l (some u)) H1
section
variable {K : PySem.W.Frag} {σ σ' : L2.St} {H H' : Hp} {Q : VK} {n b c : L2.St → Hp → Prop} {rt : VK} {v w u y : V} {xs zs : List V} {t : TA} {to : TE} {a a' : Addr} {r : V → List V → Hp → VK → Prop}
theorem pe_bm' {X : Cx} {T : String} {name : Str} {id : String} {o e : Expr} {es : List Expr} {apos cpos : Pos} (pa : PlainAttrs T) (slot : Slot T name id) (hty : typeOf (.builtin id) = pure (.type "method_descriptor")) (hm : MtR X id r) (ho : PE X o to) (ha : PA X (e :: es) t) (eK : X.K = K := by (conv => lhs; whnf)) (hbase : attributeBase o name X.env (eval o X.env) = eval o X.env := by rfl)
    (hfew : ((backTo cpos (starEach (e :: es) X.env)).all (fun x => !x.1) && (backToKw cpos (keywordEach [] X.env)).all (fun x => x.1.isSome) && decide ((e :: es).length + ([] : List Keyword).length + (if ([] : List Keyword).isEmpty then 0 else 1) < 30)) = true := by rfl) (hline : (apos.endLine == cpos.line) = true := by rfl)
    (hs : starEach (e :: es) X.env = (false, eval e X.env) :: starEach es X.env := by rfl) (hplain : (backTo cpos (starEach es X.env)).any (·.1) = false := by rfl) : PE X (.Call (.Attribute o name apos) (e :: es) [] cpos) (tBM K T r to t) := by
  subst eK
  exact pe_bm pa slot hty hm ho ha hbase hfew hline hs hplain
theorem go_bm (q : to σ H (BmR K "list" r t σ Q)) : tBM K "list" r to t σ H Q := q
theorem go_bmL (h : H a = some (.lst xs)) (q : t σ H fun vs H2 => r (.ref a) vs H2 Q) : BmR K "list" r t σ Q (.ref a) H := ⟨.inl ⟨rfl, _, SqL.of h⟩, q⟩
theorem go_ext (h1 : H a = some (.lst xs)) (h2 : H a' = some (.lst zs)) (hz : xs.length + zs.length ≤ sizeLine) (q : Q .non (upd H a (.lst (xs ++ zs)))) : rExtend (.ref a) [.ref a'] H Q := ⟨a, a', xs, zs, rfl, rfl, h1, h2, hz, q⟩
theorem go_app (h1 : H a = some (.lst xs)) (hz : xs.length < sizeLine) (q : Q .non (upd H a (.lst (xs ++ [y])))) : rAppend (.ref a) [y] H Q := ⟨a, xs, y, rfl, rfl, h1, hz, q⟩
theorem go_par3 {i j l : Nat} (q : t σ H (Par3 i j l n σ)) : tPar3 i j l t ⟨n, rt, b, c⟩ σ H := q
theorem go_par3k {i j l : Nat} (e : ((σ.set i (some v)).set j (some w)).set l (some u) = σ') (q : n σ' H) : Par3 i j l n σ [v, w, u] H := by subst e; exact ⟨v, w, u, rfl, q⟩
theorem go_fdX {m' n' : Nat} (h : n' ≠ 0 ∧ n'.log2 < 9000) (q : Q (.int ((m' / n' : Nat) : Int)) H) : rI CDivX (fun i j => .int (i.fdiv j)) (.int (m' : Int)) (.int (n' : Int)) H Q :=
  ⟨_, _, rfl, rfl, ⟨by omega, by rw [Int.natAbs_natCast]; exact h.2⟩, by
    show Q (.int ((m' : Int).fdiv (n' : Int))) H
    rw [Int.fdiv_eq_ediv_of_nonneg _ (by omega)]
    exact q⟩
/-- sorted -/
theorem go_sort {ks : List (List Int)} (d : Nat) (B : Int) (h1 : SqL K H a xs) (h2 : DpAll K H xs (ks.map tI)) (hd : 1 ≤ d) (hk : ∀ k ∈ ks, k.length = d ∧ TS.Bd B k)
    (q : ∀ (ys : List V) (js : List (List Int)) (p : Addr) (H' : Hp), js.Perm ks → js.Pairwise (fun x y => TS.code B x ≤ TS.code B y) → H p = none → Same H H' → H' p = some (.lst ys) → DpAll K H' ys (js.map tI) → Q (.ref p) H') : rSortT K [.ref a] H Q := ⟨a, xs, ks, d, B, rfl, h1, h2, hd, hk, q⟩
end
end Mv
set_option Elab.async false
set_option maxRecDepth 100000
set_option maxHeartbeats 4000000
namespace T
open PySem L2 Mv
abbrev s_isnum : Stmt := top 25
theorem sc_isnum : FnScope ["value"] ["value"] (defScope s_isnum) := ⟨rfl, rfl, rfl, by decide +kernel, rfl, by decide +kernel, by decide +kernel⟩
abbrev s_wantnum : Stmt := top 26
theorem sc_wantnum : FnScope ["value"] ["value"] (defScope s_wantnum) := ⟨rfl, rfl, rfl, by decide +kernel, rfl, by decide +kernel, by decide +kernel⟩
abbrev s_asratio : Stmt := top 27
theorem sc_asratio : FnScope ["number"] ["number"] (defScope s_asratio) := ⟨rfl, rfl, rfl, by decide +kernel, rfl, by decide +kernel, by decide +kernel⟩
abbrev s_compart : Stmt := top 30
theorem sc_compart : FnScope ["one", "other"] ["one", "other"] (defScope s_compart) := ⟨rfl, rfl, rfl, by decide +kernel, rfl, by decide +kernel, by decide +kernel⟩
abbrev s_rinit : Stmt := inClass (top 31) 0
theorem sc_rinit : FnScope ["self", "top", "bottom", "part"] ["self", "top", "bottom"] (defScope s_rinit) := ⟨rfl, rfl, rfl, by decide +kernel, rfl, by decide +kernel, by decide +kernel⟩
/-- what stands of the class Ratio -/
structure RtG (K : PySem.W.Frag) (mg : Str → Option Value) (CR : Addr) : Prop where
  I : ClsI K CR
  mgC : mg "Ratio" = some (.ref CR)
  nT : NoAttr K CR "own_top"
  nB : NoAttr K CR "own_bottom"
  ki : PySem.W.kitOne K (.ref CR) (.type "int") = some false
  kb : PySem.W.kitOne K (.ref CR) (.type "bool") = some false
  oi : PySem.W.kitOne K (.type "int") (.ref CR) = some false
section
variable {P : Program} {w : World} {K : PySem.W.Frag} {mg : Str → Option Value} {base : Heap} {CR : Addr}
def rtF (q : Rat) : List (Str × V) := [("own_top", .int q.num), ("own_bottom", .int (q.den : Int))]
/-- a Ratio -/
def RatAt (CR : Addr) (H : Hp) (v : V) (q : Rat) : Prop := ∃ a dx, v = .ref a ∧ H a = some (.ins CR dx (rtF q))
/-- an INTEGER or a Ratio -/
def NumAt (CR : Addr) (H : Hp) (v : V) (q : Rat) : Prop := (∃ i : Int, v = .int i ∧ q = (i : Rat)) ∨ RatAt CR H v q
theorem up_rat {H H' : Hp} {v : V} {q : Rat} (s : Same H H') (h : RatAt CR H v q) : RatAt CR H' v q := by
  obtain ⟨a, dx, e, ea⟩ := h
  exact ⟨a, dx, e, s _ _ ea⟩
theorem up_num {H H' : Hp} {v : V} {q : Rat} (s : Same H H') (h : NumAt CR H v q) : NumAt CR H' v q := h.imp id (up_rat s)
theorem bu_rat {p : Addr} {H H' : Hp} {v : V} {q : Rat} (s : Bu p H H') (hp : Pot H p) (h : RatAt CR H v q) : RatAt CR H' v q := by
  obtain ⟨a, dx, e, ea⟩ := h
  exact ⟨a, dx, e, bu_geti s hp ea⟩
theorem bu_num {p : Addr} {H H' : Hp} {v : V} {q : Rat} (s : Bu p H H') (hp : Pot H p) (h : NumAt CR H v q) : NumAt CR H' v q := h.imp id (bu_rat s hp)
theorem mi_rat {p : Addr} {k : Nat} {H H' : Hp} {v : V} {q : Rat} (s : Mi p k H H') (hk : k ≠ 2) (h : RatAt CR H v q) : RatAt CR H' v q := by
  obtain ⟨b, dx, e, eb⟩ := h
  refine ⟨b, dx, e, s.2 b _ (fun z => ?_) eb⟩
  obtain ⟨⟨C', dx', fs, ea, hl⟩, _⟩ := s
  rw [z, ea] at eb
  cases eb
  exact hk hl.symm
theorem mi_num {p : Addr} {k : Nat} {H H' : Hp} {v : V} {q : Rat} (s : Mi p k H H') (hk : k ≠ 2) (h : NumAt CR H v q) : NumAt CR H' v q := h.imp id (mi_rat s hk)
theorem num_int {H : Hp} (i : Int) : NumAt CR H (.int i) (i : Rat) := .inl ⟨i, rfl, rfl⟩
theorem rat_of {H : Hp} {a dx : Addr} {q : Rat} (h : H a = some (.ins CR dx (rtF q))) : RatAt CR H (.ref a) q := ⟨a, dx, rfl, h⟩
theorem num_rat {H : Hp} {v : V} {q : Rat} (h : RatAt CR H v q) : NumAt CR H v q := .inr h
/-- a method, a property of a Ratio -/
theorem go_merR {H : Hp} {v : V} {q : Rat} {m : Str} {sp : Sp} {E : XK} {t : TA} {σ : L2.St} {Q : VK} (h : RatAt CR H v q) (m1 : m ≠ "own_top") (m2 : m ≠ "own_bottom") (k : t σ H fun vs H2 => sp (v :: vs) H2 Q E) : MeR CR m sp [] E t σ Q v H := by
  obtain ⟨a, dx, rfl, ea⟩ := h
  have z : ∀ {x : Str}, m ≠ x → (m == x) = false := fun h => by simpa using h
  exact go_mer ea (by unfold rtF; simp only [List.lookup, z m1, z m2]) k
theorem go_prR {H : Hp} {v : V} {q : Rat} {sp : Sp} {E : XK} {Q : VK} (h : RatAt CR H v q) (k : sp [v] H Q E) : PrR CR sp [] E Q v H := by
  obtain ⟨a, dx, rfl, ea⟩ := h
  exact go_prr ea k
/-- the fraction in lowest terms, by the common part -/
theorem div_top {t b : Int} (hb : b ≠ 0) : (Rat.divInt t b).num = t.fdiv (if b < 0 then -(Nat.gcd t.natAbs b.natAbs : Int) else (Nat.gcd t.natAbs b.natAbs : Int)) := by
  rw [Rat.num_divInt]
  have g0 : (0 : Int) < (Nat.gcd t.natAbs b.natAbs : Int) := Int.natCast_pos.mpr (Nat.gcd_pos_of_pos_right _ (by omega))
  have eg : ((b.gcd t : Nat) : Int) = (Nat.gcd t.natAbs b.natAbs : Int) := by rw [Int.gcd_comm]; rfl
  rw [eg]
  split
  · next h =>
    rw [Int.sign_eq_neg_one_of_neg h, Int.neg_one_mul]
    obtain ⟨c, hc⟩ : (Nat.gcd t.natAbs b.natAbs : Int) ∣ t := Int.ofNat_dvd_left.mpr (Nat.gcd_dvd_left _ _)
    generalize (Nat.gcd t.natAbs b.natAbs : Int) = g at *
    have hg : g ≠ 0 := by omega
    rw [hc, ← Int.mul_neg, Int.mul_ediv_cancel_left _ hg, show g * c = -g * -c by rw [Int.neg_mul_neg], Int.mul_fdiv_cancel_left _ (by omega)]
  · next h =>
    rw [Int.sign_eq_one_of_pos (by omega), Int.one_mul]
    exact (Int.fdiv_eq_ediv_of_nonneg _ (by omega)).symm
theorem div_bot {t b : Int} (hb : b ≠ 0) : ((Rat.divInt t b).den : Int) = b.fdiv (if b < 0 then -(Nat.gcd t.natAbs b.natAbs : Int) else (Nat.gcd t.natAbs b.natAbs : Int)) := by
  rw [Rat.den_divInt, if_neg hb]
  have g0 : (0 : Int) < (Nat.gcd t.natAbs b.natAbs : Int) := Int.natCast_pos.mpr (Nat.gcd_pos_of_pos_right _ (by omega))
  have eg : b.gcd t = Nat.gcd t.natAbs b.natAbs := by rw [Int.gcd_comm]; rfl
  rw [eg, Int.natCast_ediv]
  split
  · next h =>
    rw [show ((b.natAbs : Nat) : Int) = -b by omega]
    obtain ⟨c, hc⟩ : (Nat.gcd t.natAbs b.natAbs : Int) ∣ b := Int.ofNat_dvd_left.mpr (Nat.gcd_dvd_right _ _)
    generalize (Nat.gcd t.natAbs b.natAbs : Int) = g at *
    have hg : g ≠ 0 := by omega
    rw [hc, ← Int.mul_neg, Int.mul_ediv_cancel_left _ hg, show g * c = -g * -c by rw [Int.neg_mul_neg], Int.mul_fdiv_cancel_left _ (by omega)]
  · next h =>
    rw [show ((b.natAbs : Nat) : Int) = b by omega]
    exact (Int.fdiv_eq_ediv_of_nonneg _ (by omega)).symm
theorem log2_le {m n : Nat} (h : m ≤ n) : m.log2 ≤ n.log2 := by
  rcases Nat.eq_zero_or_pos m with z | z
  · subst z; simp
  · exact (Nat.le_log2 (by omega)).mpr (Nat.le_trans (Nat.log2_self_le (by omega)) h)
theorem go_absI {i : Int} {H : Hp} {Q : VK} (q : Q (.int (i.natAbs : Int)) H) : rAb [V.int i] H Q := ⟨i, rfl, by
  by_cases h : i < 0
  · rw [if_pos h]; rw [show ((i.natAbs : Nat) : Int) = -i by omega] at q; exact q
  · rw [if_neg h]; rw [show ((i.natAbs : Nat) : Int) = i by omega] at q; exact q⟩
def sp_compart : Sp := fun vs H Q _ => ∃ (m n : Nat), vs = [.int m, .int n] ∧ Q (.int (Nat.gcd m n : Nat)) H
theorem c_compart {m n : Nat} {H : Hp} {Q : VK} {E : XK}  (q : Q (.int (Nat.gcd m n : Nat)) H) : sp_compart  [.int m, .int n] H Q E := ⟨_, _, rfl, q⟩
def sp_rinit (CR : Addr) : Sp := fun vs H Q _ => ∃ (x dx : Addr) (t b : Int), vs = [.ref x, .int t, .int b] ∧ H x = some (.ins CR dx []) ∧ b ≠ 0 ∧ b.natAbs.log2 < 9000 ∧ ∀ H', Bu x H H' → H' x = some (.ins CR dx (rtF (Rat.divInt t b))) → Q .non H'
theorem c_rinit {CR : Addr} {x dx : Addr} {t b : Int} {H : Hp} {Q : VK} {E : XK} (h0 : H x = some (.ins CR dx [])) (h1 : b ≠ 0) (h2 : b.natAbs.log2 < 9000) (q : ∀ H', Bu x H H' → H' x = some (.ins CR dx (rtF (Rat.divInt t b))) → Q .non H') : sp_rinit CR [.ref x, .int t, .int b] H Q E := ⟨_, _, _, _, rfl, h0, h1, h2, q⟩
def sp_isnum (CR : Addr) : Sp := fun vs H Q _ => ∃ (v : V) (r : Rat), vs = [v] ∧ NumAt CR H v r ∧ Q (.bl true) H
theorem c_isnum {CR : Addr} {v : V} {r : Rat} {H : Hp} {Q : VK} {E : XK} (h0 : NumAt CR H v r) (q : Q (.bl true) H) : sp_isnum CR [v] H Q E := ⟨_, _, rfl, h0, q⟩
def sp_wantnum (CR : Addr) : Sp := fun vs H Q _ => ∃ (v : V) (r : Rat), vs = [v] ∧ NumAt CR H v r ∧ Q .non H
theorem c_wantnum {CR : Addr} {v : V} {r : Rat} {H : Hp} {Q : VK} {E : XK} (h0 : NumAt CR H v r) (q : Q .non H) : sp_wantnum CR [v] H Q E := ⟨_, _, rfl, h0, q⟩
def sp_asratio (CR : Addr) : Sp := fun vs H Q _ => ∃ (v : V) (r : Rat), vs = [v] ∧ NumAt CR H v r ∧ ∀ b dy H', Same H H' → H' b = some (.ins CR dy (rtF r)) → Q (.ref b) H'
theorem c_asratio {CR : Addr} {v : V} {r : Rat} {H : Hp} {Q : VK} {E : XK} (h0 : NumAt CR H v r) (q : ∀ b dy H', Same H H' → H' b = some (.ins CR dy (rtF r)) → Q (.ref b) H') : sp_asratio CR [v] H Q E := ⟨_, _, rfl, h0, q⟩
theorem go_mkrat {H : Hp} {t b : Int} {Q : VK} {E : XK} (hb : b ≠ 0) (hz : b.natAbs.log2 < 9000) (q : ∀ x H', H x = none → Same H H' → RatAt CR H' (.ref x) (Rat.divInt t b) → Q (.ref x) H') : MakR CR (sp_rinit CR) [] E Q [.int t, .int b] H := by
  intro x dx hx hdx hne
  have s1 : Same H (upd (upd H dx (.own x)) x (.ins CR dx [])) := same_make hx hdx hne
  refine ⟨x, dx, t, b, rfl, upd_same, hb, hz, fun H' bu e => ⟨rfl, q x H' hx (fun c o z => ?_) ⟨x, dx, rfl, e⟩⟩⟩
  exact bu c o (fun y => by rw [y, hx] at z; cases z) (s1 c o z)
theorem divInt_one (t : Int) : Rat.divInt t 1 = (t : Rat) := by
  refine Rat.ext ?_ ?_
  · rw [Rat.num_divInt, Rat.num_intCast]; simp
  · rw [Rat.den_divInt, Rat.den_intCast]; simp
theorem go_mkrat1 {H : Hp} {t : Int} {Q : VK} {E : XK} (q : ∀ x H', H x = none → Same H H' → RatAt CR H' (.ref x) (t : Rat) → Q (.ref x) H') : MakR CR (sp_rinit CR) [.int 1] E Q [.int t] H := by
  intro x dx hx hdx hne
  have s1 : Same H (upd (upd H dx (.own x)) x (.ins CR dx [])) := same_make hx hdx hne
  refine ⟨x, dx, t, 1, rfl, upd_same, by decide, by decide, fun H' bu e => ⟨rfl, q x H' hx (fun c o z => ?_) ⟨x, dx, rfl, by rw [divInt_one] at e; exact e⟩⟩⟩
  exact bu c o (fun y => by rw [y, hx] at z; cases z) (s1 c o z)
local macro_rules | `(tactic| tb_rel) => `(tactic| repeat (first
  | with_reducible assumption
  | with_reducible exact Dp.int _
  | with_reducible exact Dp.str _
  | with_reducible exact Dp.bl _
  | with_reducible exact Dp.non
  | (with_reducible apply SqT.of; with_reducible assumption)
  | (with_reducible apply SqL.of; with_reducible assumption)
  | (with_reducible apply up_dp; with_reducible assumption)
  | (with_reducible apply up_sqt; with_reducible assumption)
  | (with_reducible apply up_sql; with_reducible assumption)
  | (with_reducible apply up_get; with_reducible assumption)
  | (with_reducible apply up_pot; with_reducible assumption)
  | with_reducible exact Same.refl _
  | with_reducible exact Bu.refl _ _
  | (with_reducible apply up_same; with_reducible assumption)
  | (with_reducible apply up_bu; with_reducible assumption)
  | (with_reducible apply bu_bu; with_reducible assumption)
  | (with_reducible apply free_of; with_reducible assumption)
  | (with_reducible apply mi_fr; with_reducible assumption; (focus (tb_rel; done)))
  | (with_reducible apply mi_dp; with_reducible assumption)
  | (with_reducible apply mi_sqt; with_reducible assumption)
  | (with_reducible apply mi_sql; with_reducible assumption)
  | (with_reducible apply mi_gett; with_reducible assumption)
  | (with_reducible apply mi_getl; with_reducible assumption)
  | (with_reducible apply mi_pot; with_reducible assumption)
  | (with_reducible apply mi_refl; with_reducible assumption; (focus (with_unfolding_all exact rfl)))
  | (with_reducible apply up_mi; with_reducible assumption)
  | (with_reducible apply mi_mi; with_reducible assumption)
  | (with_reducible apply mi_bu; with_reducible assumption)
  | (with_reducible apply bu_gett; with_reducible assumption; (focus (tb_rel; done)))
  | (with_reducible apply bu_geti; with_reducible assumption; (focus (tb_rel; done)))
  | (with_reducible apply bu_get; with_reducible assumption; (focus (tlg_ne; done)))
  | (with_reducible apply bu_sqt; with_reducible assumption; (focus (tb_rel; done)))
  | (with_reducible apply bu_sql; with_reducible assumption; (focus (tlg_ne; done)))
  | (with_reducible apply bu_dp; with_reducible assumption; (focus (tb_rel; done)); (focus (lcg_src; done)))
  | fail "up"))
local macro_rules | `(tactic| tlg_ne) => `(tactic| first
  | with_reducible assumption
  | (with_reducible apply pot_ne; with_reducible assumption; (focus (tb_rel; done)))
  | fail "ne")
local macro_rules | `(tactic| lcg_src) => `(tactic| first
  | with_reducible assumption
  | with_unfolding_all exact rfl
  | with_unfolding_all decide
  | with_unfolding_all exact Nat.ne_of_beq_eq_false rfl
  | (apply_assumption; done)
  | omega
  | (simp; done)
  | (simp; omega)
  | fail "sd")
local macro_rules | `(tactic| lcg_sub) => `(tactic| first
  | (unfold sizeLine; omega)
  | (simp only [List.length_cons, List.length_nil, List.length_append, List.length_map, List.length_replicate, List.length_take, List.length_drop]; unfold sizeLine; omega)
  | (simp; unfold sizeLine; omega)
  | fail "sz")
local macro_rules | `(tactic| nest_cls) => `(tactic| first
  | (tb_rel; done)
  | (with_reducible apply nmI; (focus (tb_rel; done)))
  | (with_reducible apply d_tup; (focus (tb_rel; done)); (focus (lsm_bools; done)))
  | (with_reducible apply d_lst; (focus (tb_rel; done)); (focus (lsm_bools; done)))
  | fail "dp")
local macro_rules | `(tactic| lsm_bools) => `(tactic| repeat (first
  | with_reducible exact DpAll.nil
  | with_reducible assumption
  | (with_reducible apply DpAll.cons; (focus (nest_cls; done)))
  | fail "dpa"))
local macro_rules | `(tactic| none_booked) => `(tactic| first | with_unfolding_all exact rfl | (with_reducible apply atI_nat; with_reducible assumption) | fail "ix")
local macro_rules | `(tactic| walk_at "go") => `(tactic| repeat (first
  | (focus (with_reducible refine go_var (v := ?_) ?_ ?_; rotate_left; (focus (with_unfolding_all exact rfl))))
  | with_reducible refine go_seq ?_
  | with_reducible refine go_cN ?_
  | with_reducible refine go_c ?_
  | with_reducible refine go_op ?_
  | with_reducible refine go_nil ?_
  | with_reducible refine go_cons ?_
  | with_reducible refine go_cb ?_
  | with_reducible refine go_call0 ?_
  | with_reducible refine go_asg ?_
  | (focus (with_reducible refine go_gname (σ' := ?_) ?_ ?_; rotate_left; (focus (simp only [List.set_cons_succ, List.set_cons_zero]; exact rfl))))
  | with_reducible refine go_par ?_
  | with_reducible refine go_par3 ?_
  | (focus (with_reducible refine go_par3k (σ' := ?_) ?_ ?_; rotate_left; (focus (simp only [List.set_cons_succ, List.set_cons_zero]; exact rfl))))
  | with_reducible refine go_bm ?_
  | (with_reducible apply go_bmL; (focus (tb_rel; done)))
  | (with_reducible apply go_fdX; (focus (with_reducible assumption; done)))
  | (with_reducible apply go_rI; (focus (with_reducible assumption; done)))
  | (focus (with_reducible refine go_par2 (σ' := ?_) ?_ ?_; rotate_left; (focus (simp only [List.set_cons_succ, List.set_cons_zero]; exact rfl))))
  | with_reducible refine go_ifs ?_
  | with_reducible refine go_test ?_
  | with_reducible refine go_tb ?_
  | with_reducible refine go_asb ?_
  | with_reducible refine go_asi ?_
  | with_reducible refine go_ret ?_
  | with_reducible refine go_retn ?_
  | with_reducible refine go_drop ?_
  | with_reducible refine go_next ?_
  | with_reducible refine go_and ?_
  | with_reducible refine go_or ?_
  | with_reducible refine go_not ?_
  | with_reducible refine go_andv ?_
  | with_reducible refine go_orv ?_
  | with_reducible refine go_notv ?_
  | with_reducible refine go_ife ?_
  | with_reducible refine go_chain ?_
  | with_reducible refine go_if1 ?_
  | with_reducible refine go_if0 ?_
  | with_reducible refine go_ifn1 ?_
  | with_reducible refine go_ifn0 ?_
  | (with_reducible apply go_ift; (focus (first | with_reducible rfl | with_reducible assumption | omega)))
  | (with_reducible apply go_ifnt; (focus (first | with_reducible rfl | with_reducible assumption | omega)))
  | (with_reducible apply go_iff; (focus (first | with_reducible assumption | omega)))
  | (with_reducible apply go_ifnf; (focus (first | with_reducible assumption | omega)))
  | with_reducible refine go_un ?_
  | with_reducible refine go_tup ?_
  | with_reducible refine go_lst ?_
  | (with_reducible apply go_newt; (focus (lcg_sub; done)); intros)
  | (with_reducible apply go_newl; (focus (lcg_sub; done)); intros)
  | with_reducible refine go_meth ?_
  | with_reducible refine go_for ?_
  | with_reducible refine go_lc ?_
  | with_reducible refine go_irng1 ?_
  | with_reducible refine go_irng2 ?_
  | with_reducible refine go_ilist ?_
  | with_reducible refine go_itup ?_
  | with_reducible refine go_izip ?_
  | with_reducible refine go_ienum ?_
  | (with_reducible apply go_rg1; (focus (lcg_src; done)))
  | (with_reducible apply go_rg2; (focus (lcg_src; done)); (focus (lcg_src; done)))
  | (with_reducible apply go_lsr; (focus (tb_rel; done)))
  | (with_reducible apply go_tpr; (focus (tb_rel; done)))
  | (with_reducible apply go_zpr; (focus (tb_rel; done)); (focus (tb_rel; done)))
  | (with_reducible apply go_zprT; (focus (tb_rel; done)); (focus (tb_rel; done)))
  | (with_reducible apply go_enrL; (focus (tb_rel; done)))
  | (with_reducible apply go_enrT; (focus (tb_rel; done)))
  | with_reducible refine go_prop ?_
  | with_reducible refine go_knr0 ?_
  | (with_reducible apply go_knr; (focus (with_unfolding_all exact rfl; done)); (focus (simp only [kSw2, kRev3, kId, List.nil_append, List.cons_append]; exact rfl)))
  | with_reducible refine go_mkn ?_
  | (with_reducible apply go_mkr; (focus (tb_rel; done)); (focus (with_unfolding_all exact rfl; done)))
  | with_reducible refine go_fld ?_
  | (with_reducible apply go_flr; (focus (tb_rel; done)); (focus (with_reducible assumption; done)); (focus (with_reducible assumption; done)); (focus (with_unfolding_all exact rfl; done)))
  | (with_reducible apply go_prr; (focus (tb_rel; done)))
  | (with_reducible apply go_mer; (focus (tb_rel; done)); (focus (with_unfolding_all exact rfl; done)))
  | with_reducible refine go_sfld ?_
  | (with_reducible apply go_sfr; (focus (tb_rel; done)); (focus (with_reducible assumption; done)); (focus (with_reducible assumption; done)); (focus (with_unfolding_all exact Nat.le_of_ble_eq_true rfl; done)); (focus (with_unfolding_all exact rfl; done)); intros)
  | with_reducible refine go_revt ?_
  | with_reducible refine go_make0 ?_
  | (focus (with_reducible refine go_aug (x := ?_) ?_ ?_; rotate_left; (focus (with_unfolding_all exact rfl))))
  | (focus (with_reducible refine go_augk (σ' := ?_) ?_ ?_; rotate_left; (focus (simp only [List.set_cons_succ, List.set_cons_zero]; exact rfl))))
  | with_reducible refine go_min2 ?_
  | with_reducible refine go_int1 ?_
  | with_reducible refine go_max2 ?_
  | with_reducible refine go_intB ?_
  | with_reducible refine go_absN ?_
  | with_reducible refine go_isN ?_
  | with_reducible refine go_notN ?_
  | (with_reducible apply go_rvt; (focus (tb_rel; done)); (focus (simp only [List.reverse_cons, List.reverse_nil, List.nil_append, List.cons_append]; exact rfl)); intros)
  | (with_reducible apply go_reprNm; (focus (tb_rel; done)); (focus (with_reducible assumption; done)))
  | (with_reducible apply go_reprPr; (focus (nest_cls; done)); (focus (lcg_src; done)); (focus (lcg_src; done)))
  | with_reducible refine go_sl ?_
  | with_reducible refine go_part ?_
  | with_reducible refine go_nopart ?_
  | (with_reducible apply go_gtup; (focus (tb_rel; done)); (focus (with_unfolding_all exact rfl; done)))
  | (with_reducible apply go_gunl; (focus (tb_rel; done)); (focus (with_unfolding_all exact rfl; done)))
  | with_reducible refine go_gcons ?_
  | with_reducible refine go_gnil ?_
  | with_reducible refine go_addN ?_
  | with_reducible refine go_ltN ?_
  | with_reducible refine go_leN ?_
  | with_reducible refine go_gtN ?_
  | with_reducible refine go_geN ?_
  | (with_reducible apply go_subN; (focus (omega; done)))
  | with_reducible refine go_rI0 ?_
  | (with_reducible apply go_mulN; (focus (omega; done)))
  | (with_reducible apply go_modN; (focus (omega; done)))
  | (with_reducible apply go_divN; (focus (omega; done)))
  | (with_reducible apply go_powN; (focus (with_unfolding_all decide; done)))
  | with_reducible refine go_rU ?_
  | with_reducible refine go_eqN ?_
  | with_reducible refine go_neN ?_
  | with_reducible refine go_isB ?_
  | with_reducible refine go_notB ?_
  | with_reducible refine go_eqS ?_
  | with_reducible refine go_neS ?_
  | with_reducible refine go_eqB ?_
  | with_reducible refine go_eqI ?_
  | with_reducible refine go_neI ?_
  | (with_reducible apply go_ixt; (focus (tb_rel; done)); (focus (none_booked; done)))
  | (with_reducible apply go_ixl; (focus (tb_rel; done)); (focus (none_booked; done)))
  | (with_reducible apply go_lent; (focus (tb_rel; done)))
  | (with_reducible apply go_lenNm; (focus (tb_rel; done)))
  | (with_reducible apply go_isiNm; (focus (tb_rel; done)))
  | (with_reducible apply go_lenl; (focus (tb_rel; done)))
  | (with_reducible apply go_catA; (focus (tb_rel; done)); (focus (tb_rel; done)); (focus (lcg_sub; done)); intros)
  | (with_reducible apply go_slaT; (focus (tb_rel; done)); intros)
  | (with_reducible apply go_slaD; (focus (tb_rel; done)); intros)
  | (with_reducible apply go_rep; (focus (tb_rel; done)); (focus (lcg_src; done)); intros)
  | (with_reducible apply go_tupofl; (focus (tb_rel; done)); intros)
  | (with_reducible apply go_sllT; (focus (tb_rel; done)); intros)
  | (with_reducible apply go_sllD; (focus (tb_rel; done)); intros)
  | (with_reducible apply go_cat; (focus (tb_rel; done)); (focus (tb_rel; done)); (focus (lcg_sub; done)); intros)
  | (with_reducible apply c_asratio; (focus (tb_rel; done)); intros)
  | (with_reducible apply c_compart; intros)
  | with_reducible refine isint_int ?_
  | (with_reducible apply c_isnum; (focus (tb_rel; done)); intros)
  | (with_reducible apply c_rinit; (focus (tb_rel; done)); (focus (lcg_src; done)); (focus (lcg_src; done)); intros)
  | (with_reducible apply c_wantnum; (focus (tb_rel; done)); intros)
  | with_reducible refine go_absI ?_
  | fail "go"))
theorem ok_compart {f : Addr} {fd : FuncData} (F : Df K "common_part" "common_part" s_compart [] f fd) : FnOk P w K mg base CX0 1 f fd ["one", "other"] sp_compart := by
  refine dfOk F sc_compart (fun vs H Q E h => ?_) (fun cdv A outer s H vs Q E hr h => ?_)
  · obtain ⟨m, n, rfl, _⟩ := h
    rfl
  · obtain ⟨m, n, rfl, q⟩ := h
    refine ⟨_, (pss_cons (ps_while PassesOwn.never (pt_cmpR op_gt (pv 1) pe_int (nomark _))
  (pss_one (ps_par (i := 0) (j := 1) (by rfl) sc_compart.nd rfl rfl (by decide) rfl rfl (pa_cons (pv 1) (pa_cons (pe_op op_mod (pv 0) (pv 1)) pa_nil)) (by rfl))))
  (pss_one (ps_ret (pv 0)))), ?_⟩
    refine go_start (σ := [some _, some _]) rfl ?_
    walk_at "go"
    refine whileN (fun k σ H' => ∃ a b : Nat, k = b ∧ σ = [some (.int (a : Int)), some (.int (b : Int))] ∧ H' = H ∧ Nat.gcd a b = Nat.gcd m n) n ⟨m, n, rfl, rfl, rfl, rfl⟩ ?_
    rintro k σ H1 ⟨a, b, rfl, rfl, rfl, hg⟩
    walk_at "go"
    by_cases hb : 0 < k
    · rw [decide_eq_true hb]
      refine wh_t ?_
      walk_at "go"
      exact ⟨a % k, Nat.mod_lt _ hb, k, a % k, rfl, rfl, rfl, by rw [← hg, Nat.gcd_comm k, ← Nat.gcd_rec, Nat.gcd_comm]⟩
    · rw [decide_eq_false hb]
      refine wh_f ?_
      walk_at "go"
      have : k = 0 := by omega
      subst this
      rw [Nat.gcd_zero_right] at hg
      rw [hg]
      exact q
theorem ok_rinit {f : Addr} {fd : FuncData} {dvs : List V} (F : Df K "__init__" "Ratio.__init__" s_rinit dvs f fd) (B : Blt mg) (GR : RtG K mg CR) (cI : Ca P w K mg base 1 "is_integer" (sp_isint K) []) (cCp : Ca P w K mg base 1 "common_part" sp_compart []) : FnOk P w K mg base CX0 2 f fd ["self", "top", "bottom"] (sp_rinit CR) := by
  refine dfOk F sc_rinit (fun vs H Q E h => ?_) (fun cdv A outer s H vs Q E hr h => ?_)
  · obtain ⟨x, dx, t, b, rfl, _⟩ := h
    rfl
  · obtain ⟨x, dx, t, b, rfl, ex, hb, hz, q⟩ := h
    have cl := GR.I.cl
    have nT := GR.nT
    have nB := GR.nB
    have g0 : 0 < Nat.gcd t.natAbs b.natAbs := Nat.gcd_pos_of_pos_right _ (by omega)
    have gl : (Nat.gcd t.natAbs b.natAbs).log2 < 9000 := Nat.lt_of_le_of_lt (log2_le (Nat.gcd_le_right _ (by omega))) hz
    have d1 : CDivX t (Nat.gcd t.natAbs b.natAbs : Int) := ⟨by omega, by rw [Int.natAbs_natCast]; exact gl⟩
    have d2 : CDivX b (Nat.gcd t.natAbs b.natAbs : Int) := ⟨by omega, by rw [Int.natAbs_natCast]; exact gl⟩
    have d3 : CDivX t (-(Nat.gcd t.natAbs b.natAbs : Int)) := ⟨by omega, by rw [Int.natAbs_neg, Int.natAbs_natCast]; exact gl⟩
    have d4 : CDivX b (-(Nat.gcd t.natAbs b.natAbs : Int)) := ⟨by omega, by rw [Int.natAbs_neg, Int.natAbs_natCast]; exact gl⟩
    have e1 := div_top (t := t) hb
    have e2 := div_bot (t := t) hb
    refine ⟨_, (pss_cons (ps_if (pt_not (pt_val (pe_ca cI hr (by decide) (by rfl) (pa_cons (pv 1) pa_nil))))
  pss_never
  pss_nil)
  (pss_cons (ps_if (PW.pt (pw_or (pt_not (pt_val (pe_ca cI hr (by decide) (by rfl) (pa_cons (pv 2) pa_nil)))) (pw_or1 (pt_cmpR op_eq (pv 2) pe_int (nomark _)))))
  pss_never
  pss_nil)
  (pss_cons (ps_set (i := 3) sc_rinit.nd rfl (Or.inl rfl) (pe_ca cCp hr (by decide) (by rfl) (pa_cons (pe_callB call_abs' (by rfl) B.abs bt_abs (pa_cons (pv 1) pa_nil)) (pa_cons (pe_callB call_abs' (by rfl) B.abs bt_abs (pa_cons (pv 2) pa_nil)) pa_nil))))
  (pss_cons (ps_if (pt_cmpR op_lt (pv 2) pe_int (nomark _))
  (pss_one (ps_set (i := 3) sc_rinit.nd rfl (Or.inl rfl) (pe_un un_neg (pv 3))))
  pss_nil)
  (pss_cons (ps_fld' (pv 0) (pe_op op_fdivX (pv 1) (pv 3)) rfl)
  (pss_one (ps_fld' (pv 0) (pe_op op_fdivX (pv 2) (pv 3)) rfl))))))), ?_⟩
    refine go_start (σ := [some _, some _, some _, none]) rfl ?_
    walk_at "go"
    by_cases h : b < 0
    · rw [if_pos h] at e1 e2
      refine go_ift (show b < ((0 : Nat) : Int) from h) ?_
      walk_at "go"
      rename_i H1 m1 f1 H2 m2 f2
      refine q _ (by tb_rel) ?_
      rw [f2]
      unfold rtF
      rw [e1, e2]
      rfl
    · rw [if_neg h] at e1 e2
      refine go_iff (show ¬ b < ((0 : Nat) : Int) from h) ?_
      walk_at "go"
      rename_i H1 m1 f1 H2 m2 f2
      refine q _ (by tb_rel) ?_
      rw [f2]
      unfold rtF
      rw [e1, e2]
      rfl
theorem ok_isnum {f : Addr} {fd : FuncData} (F : Df K "is_number" "is_number" s_isnum [] f fd) (B : Blt mg) (GR : RtG K mg CR) (cI : Ca P w K mg base 1 "is_integer" (sp_isint K) []) : FnOk P w K mg base CX0 2 f fd ["value"] (sp_isnum CR) := by
  refine dfOk F sc_isnum (fun vs H Q E h => ?_) (fun cdv A outer s H vs Q E hr h => ?_)
  · obtain ⟨v, r, rfl, _⟩ := h
    rfl
  · obtain ⟨v, r, rfl, hv, q⟩ := h
    rcases hv with ⟨i, rfl, rfl⟩ | ⟨a, dx, rfl, ea⟩
    · skip
      refine ⟨_, (pss_one (ps_ret (pe_or (pe_ca cI hr (by decide) (by rfl) (pa_cons (pv 0) pa_nil)) (pe_one (pe_callB call_isi' (by rfl) B.isinstance bt_isinstance (pa_cons (pv 0) (pa_cons (pe_glob (by rfl) GR.mgC (v := .ref CR) rfl) pa_nil))))))), ?_⟩
      refine go_start (σ := [some _]) rfl ?_
      walk_at "go"
      exact q
    · skip
      refine ⟨_, (pss_one (ps_ret (pe_or (pe_ca cI hr (by decide) (by rfl) (pa_cons (pv 0) pa_nil)) (pe_one (pe_callB call_isi' (by rfl) B.isinstance bt_isinstance (pa_cons (pv 0) (pa_cons (pe_glob (by rfl) GR.mgC (v := .ref CR) rfl) pa_nil))))))), ?_⟩
      refine go_start (σ := [some _]) rfl ?_
      walk_at "go"
      refine isint_not ⟨.ref CR, false, false, GR.I.ty ea, GR.ki, GR.kb, rfl⟩ ?_
      walk_at "go"
      refine go_isi (GR.I.ty ea) GR.I.me ?_
      walk_at "go"
      exact q
theorem ok_wantnum {f : Addr} {fd : FuncData} (F : Df K "want_number" "want_number" s_wantnum [] f fd) (cNum : Ca P w K mg base 2 "is_number" (sp_isnum CR) []) : FnOk P w K mg base CX0 3 f fd ["value"] (sp_wantnum CR) := by
  refine dfOk F sc_wantnum (fun vs H Q E h => ?_) (fun cdv A outer s H vs Q E hr h => ?_)
  · obtain ⟨v, r, rfl, _⟩ := h
    rfl
  · obtain ⟨v, r, rfl, hv, q⟩ := h
    refine ⟨_, (pss_one (ps_if (pt_not (pt_val (pe_ca cNum hr (by decide) (by rfl) (pa_cons (pv 0) pa_nil))))
  pss_never
  pss_nil)), ?_⟩
    refine go_start (σ := [some _]) rfl ?_
    walk_at "go"
    exact q
theorem ok_asratio {f : Addr} {fd : FuncData} (F : Df K "as_ratio" "as_ratio" s_asratio [] f fd) (B : Blt mg) (GR : RtG K mg CR) (cRt1 : Ma P w K mg base 2 "Ratio" CR (sp_rinit CR) [.int 1]) : FnOk P w K mg base CX0 4 f fd ["number"] (sp_asratio CR) := by
  refine dfOk F sc_asratio (fun vs H Q E h => ?_) (fun cdv A outer s H vs Q E hr h => ?_)
  · obtain ⟨v, r, rfl, _⟩ := h
    rfl
  · obtain ⟨v, r, rfl, hv, q⟩ := h
    rcases hv with ⟨i, rfl, rfl⟩ | ⟨a, dx, rfl, ea⟩
    · skip
      refine ⟨_, (pss_one (ps_ret (pe_ifExp (pt_val (pe_callB call_isi' (by rfl) B.isinstance bt_isinstance (pa_cons (pv 0) (pa_cons (pe_glob (by rfl) GR.mgC (v := .ref CR) rfl) pa_nil)))) (pv 0) (pe_ma cRt1 hr (by decide) (by rfl) (pa_cons (pv 0) pa_nil))))), ?_⟩
      refine go_start (σ := [some _]) rfl ?_
      walk_at "go"
      refine go_isi (.base (.int i)) GR.oi ?_
      walk_at "go"
      refine go_mkrat1 ?_
      intro x H1 nx s1 hx
      obtain ⟨b, dy, e, eb⟩ := hx
      cases e
      exact q _ _ _ (by tb_rel) eb
    · skip
      refine ⟨_, (pss_one (ps_ret (pe_ifExp (pt_val (pe_callB call_isi' (by rfl) B.isinstance bt_isinstance (pa_cons (pv 0) (pa_cons (pe_glob (by rfl) GR.mgC (v := .ref CR) rfl) pa_nil)))) (pv 0) (pe_ma cRt1 hr (by decide) (by rfl) (pa_cons (pv 0) pa_nil))))), ?_⟩
      refine go_start (σ := [some _]) rfl ?_
      walk_at "go"
      refine go_isi (GR.I.ty ea) GR.I.me ?_
      walk_at "go"
      exact q _ _ _ (by tb_rel) ea
theorem rinit_b1 {f : Addr} {fd : FuncData} {v : V} (F : Df K "__init__" "Ratio.__init__" s_rinit [v] f fd) : ∃ ds, Vals [v] ds ∧ Binds K fd ["self", "top", "bottom"] ds :=
  FunD.binds1 F (ps := ["self", "top", "bottom"]) 2 0 (by simp) rfl fun T kV doc pm an cdv ct us its hl hi => match us, its, hl, hi with
    | [_, _], [_], _, _ => ⟨_, rfl, rfl⟩
theorem rinit_b2 {f : Addr} {fd : FuncData} {v : V} (F : Df K "__init__" "Ratio.__init__" s_rinit [v] f fd) : ∃ ds, Vals [] ds ∧ Binds K fd ["self", "top", "bottom"] ds :=
  FunD.binds1 F (ps := ["self", "top", "bottom"]) 3 1 (by simp) rfl fun T kV doc pm an cdv ct us its hl hi => match us, its, hl, hi with
    | [_, _, _], [_], _, _ => ⟨_, rfl, rfl⟩
end
end T
set_option Elab.async false
set_option maxRecDepth 100000
set_option maxHeartbeats 4000000
namespace T
open PySem L2 Mv
abbrev s_rover : Stmt := inClass (top 31) 5
theorem sc_rover : FnScope ["self", "other", "by"] ["self", "other"] (defScope s_rover) := ⟨rfl, rfl, rfl, by decide +kernel, rfl, by decide +kernel, by decide +kernel⟩
abbrev s_rbelow : Stmt := inClass (top 31) 6
theorem sc_rbelow : FnScope ["self", "other", "mate"] ["self", "other"] (defScope s_rbelow) := ⟨rfl, rfl, rfl, by decide +kernel, rfl, by decide +kernel, by decide +kernel⟩
abbrev s_rmul : Stmt := inClass (top 31) 12
theorem sc_rmul : FnScope ["self", "other", "mate"] ["self", "other"] (defScope s_rmul) := ⟨rfl, rfl, rfl, by decide +kernel, rfl, by decide +kernel, by decide +kernel⟩
abbrev s_rsign : Stmt := inClass (top 31) 4
theorem sc_rsign : FnScope ["self"] ["self"] (defScope s_rsign) := ⟨rfl, rfl, rfl, by decide +kernel, rfl, by decide +kernel, by decide +kernel⟩
abbrev s_req : Stmt := inClass (top 31) 15
theorem sc_req : FnScope ["self", "other"] ["self", "other"] (defScope s_req) := ⟨rfl, rfl, rfl, by decide +kernel, rfl, by decide +kernel, by decide +kernel⟩
section
variable {P : Program} {w : World} {K : PySem.W.Frag} {mg : Str → Option Value} {base : Heap} {CR : Addr}
/-- a number that is not too great -/
def SzQ (q : Rat) : Prop := q.num.natAbs < 2 ^ 4400 ∧ q.den < 2 ^ 4400
theorem lgI {i : Int} {n : Nat} (h : i.natAbs < 2 ^ n) (hn : 0 < n) : i.natAbs.log2 < n := lg_lt h hn
theorem SzQ.cmul {i j : Int} (hi : i.natAbs < 2 ^ 4400) (hj : j.natAbs < 2 ^ 4400) : CMulW i j := wide_mul hi hj (by decide) (by decide) (by decide)
theorem log_mul {i j : Int} (hi : i.natAbs < 2 ^ 4400) (hj : j.natAbs < 2 ^ 4400) : (i * j).natAbs.log2 < 9000 := by
  refine lg_lt ?_ (by decide)
  rw [Int.natAbs_mul]
  refine Nat.lt_of_lt_of_le (Nat.mul_lt_mul'' hi hj) ?_
  rw [← Nat.pow_add]
  exact Nat.pow_le_pow_right (by decide) (by decide)
theorem q_div (q : Rat) : Rat.divInt q.num (q.den : Int) = q := Rat.num_divInt_den q
theorem q_mul (q r : Rat) : Rat.divInt (q.num * r.num) ((q.den : Int) * (r.den : Int)) = q * r := by
  rw [← Rat.divInt_mul_divInt, q_div, q_div]
theorem q_over (q r : Rat) : Rat.divInt (q.num * (r.den : Int)) ((q.den : Int) * r.num) = q / r := by
  rw [← Rat.divInt_mul_divInt, q_div, Rat.div_def, Rat.inv_def]
theorem den_pos (q : Rat) : 0 < q.den := Nat.pos_of_ne_zero q.den_nz
def sp_rover (CR : Addr) : Sp := fun vs H Q _ => ∃ (v u : V) (q r : Rat), vs = [v, u] ∧ RatAt CR H v q ∧ NumAt CR H u r ∧ r ≠ 0 ∧ SzQ q ∧ SzQ r ∧ ∀ b dy H', Same H H' → H' b = some (.ins CR dy (rtF (q / r))) → Q (.ref b) H'
theorem c_rover {CR : Addr} {v u : V} {q r : Rat} {H : Hp} {Q : VK} {E : XK} (h0 : RatAt CR H v q) (h1 : NumAt CR H u r) (h2 : r ≠ 0) (h3 : SzQ q) (h4 : SzQ r) (q : ∀ b dy H', Same H H' → H' b = some (.ins CR dy (rtF (q / r))) → Q (.ref b) H') : sp_rover CR [v, u] H Q E := ⟨_, _, _, _, rfl, h0, h1, h2, h3, h4, q⟩
def sp_rmul (CR : Addr) : Sp := fun vs H Q _ => ∃ (v u : V) (q r : Rat), vs = [v, u] ∧ RatAt CR H v q ∧ NumAt CR H u r ∧ SzQ q ∧ SzQ r ∧ ∀ b dy H', Same H H' → H' b = some (.ins CR dy (rtF (q * r))) → Q (.ref b) H'
theorem c_rmul {CR : Addr} {v u : V} {q r : Rat} {H : Hp} {Q : VK} {E : XK} (h0 : RatAt CR H v q) (h1 : NumAt CR H u r) (h2 : SzQ q) (h3 : SzQ r) (q : ∀ b dy H', Same H H' → H' b = some (.ins CR dy (rtF (q * r))) → Q (.ref b) H') : sp_rmul CR [v, u] H Q E := ⟨_, _, _, _, rfl, h0, h1, h2, h3, q⟩
def sp_rbelow (CR : Addr) : Sp := fun vs H Q _ => ∃ (v u : V) (q r : Rat), vs = [v, u] ∧ RatAt CR H v q ∧ NumAt CR H u r ∧ SzQ q ∧ SzQ r ∧ ∀ H', Same H H' → Q (.bl (decide (q < r))) H'
theorem c_rbelow {CR : Addr} {v u : V} {q r : Rat} {H : Hp} {Q : VK} {E : XK} (h0 : RatAt CR H v q) (h1 : NumAt CR H u r) (h2 : SzQ q) (h3 : SzQ r) (q : ∀ H', Same H H' → Q (.bl (decide (q < r))) H') : sp_rbelow CR [v, u] H Q E := ⟨_, _, _, _, rfl, h0, h1, h2, h3, q⟩
def sp_rsign (CR : Addr) : Sp := fun vs H Q _ => ∃ (v : V) (q : Rat), vs = [v] ∧ RatAt CR H v q ∧ Q (.int q.num.sign) H
theorem c_rsign {CR : Addr} {v : V} {q : Rat} {H : Hp} {Q : VK} {E : XK} (h0 : RatAt CR H v q) (q : Q (.int q.num.sign) H) : sp_rsign CR [v] H Q E := ⟨_, _, rfl, h0, q⟩
def sp_req (CR : Addr) : Sp := fun vs H Q _ => ∃ (v u : V) (q r : Rat), vs = [v, u] ∧ RatAt CR H v q ∧ RatAt CR H u r ∧ Q (.bl (decide (q = r))) H
theorem c_req {CR : Addr} {v u : V} {q r : Rat} {H : Hp} {Q : VK} {E : XK} (h0 : RatAt CR H v q) (h1 : RatAt CR H u r) (q : Q (.bl (decide (q = r))) H) : sp_req CR [v, u] H Q E := ⟨_, _, _, _, rfl, h0, h1, q⟩
theorem num_ne {q : Rat} (h : q ≠ 0) : q.num ≠ 0 := fun z => h (Rat.ext z (by
  have := q.reduced
  rw [z] at this
  simpa [Nat.Coprime] using this))
local macro_rules | `(tactic| tb_rel) => `(tactic| repeat (first
  | with_reducible assumption
  | with_reducible exact Dp.int _
  | with_reducible exact Dp.str _
  | with_reducible exact Dp.bl _
  | with_reducible exact Dp.non
  | (with_reducible apply SqT.of; with_reducible assumption)
  | (with_reducible apply SqL.of; with_reducible assumption)
  | (with_reducible apply up_dp; with_reducible assumption)
  | (with_reducible apply up_sqt; with_reducible assumption)
  | (with_reducible apply up_sql; with_reducible assumption)
  | (with_reducible apply up_get; with_reducible assumption)
  | (with_reducible apply up_pot; with_reducible assumption)
  | with_reducible exact Same.refl _
  | with_reducible exact Bu.refl _ _
  | (with_reducible apply up_same; with_reducible assumption)
  | (with_reducible apply up_bu; with_reducible assumption)
  | (with_reducible apply bu_bu; with_reducible assumption)
  | (with_reducible apply free_of; with_reducible assumption)
  | (with_reducible apply mi_fr; with_reducible assumption; (focus (tb_rel; done)))
  | (with_reducible apply mi_dp; with_reducible assumption)
  | (with_reducible apply mi_sqt; with_reducible assumption)
  | (with_reducible apply mi_sql; with_reducible assumption)
  | (with_reducible apply mi_gett; with_reducible assumption)
  | (with_reducible apply mi_getl; with_reducible assumption)
  | (with_reducible apply mi_pot; with_reducible assumption)
  | (with_reducible apply mi_refl; with_reducible assumption; (focus (with_unfolding_all exact rfl)))
  | (with_reducible apply up_mi; with_reducible assumption)
  | (with_reducible apply mi_mi; with_reducible assumption)
  | (with_reducible apply mi_bu; with_reducible assumption)
  | with_reducible exact num_int _
  | (with_reducible apply rat_of; with_reducible assumption)
  | (with_reducible apply num_rat; (focus (tb_rel; done)))
  | (with_reducible apply up_rat; with_reducible assumption)
  | (with_reducible apply up_num; with_reducible assumption)
  | (with_reducible apply mi_rat; with_reducible assumption; (focus (lcg_src; done)))
  | (with_reducible apply mi_num; with_reducible assumption; (focus (lcg_src; done)))
  | (with_reducible apply bu_rat; with_reducible assumption; (focus (tb_rel; done)))
  | (with_reducible apply bu_num; with_reducible assumption; (focus (tb_rel; done)))
  | (with_reducible apply bu_gett; with_reducible assumption; (focus (tb_rel; done)))
  | (with_reducible apply bu_geti; with_reducible assumption; (focus (tb_rel; done)))
  | (with_reducible apply bu_get; with_reducible assumption; (focus (tlg_ne; done)))
  | (with_reducible apply bu_sqt; with_reducible assumption; (focus (tb_rel; done)))
  | (with_reducible apply bu_sql; with_reducible assumption; (focus (tlg_ne; done)))
  | (with_reducible apply bu_dp; with_reducible assumption; (focus (tb_rel; done)); (focus (lcg_src; done)))
  | fail "up"))
local macro_rules | `(tactic| tlg_ne) => `(tactic| first
  | with_reducible assumption
  | (with_reducible apply pot_ne; with_reducible assumption; (focus (tb_rel; done)))
  | fail "ne")
local macro_rules | `(tactic| lcg_src) => `(tactic| first
  | with_reducible assumption
  | with_unfolding_all exact rfl
  | with_unfolding_all decide
  | with_unfolding_all exact Nat.ne_of_beq_eq_false rfl
  | (apply_assumption; done)
  | omega
  | (simp; done)
  | (simp; omega)
  | fail "sd")
local macro_rules | `(tactic| lcg_sub) => `(tactic| first
  | (unfold sizeLine; omega)
  | (simp only [List.length_cons, List.length_nil, List.length_append, List.length_map, List.length_replicate, List.length_take, List.length_drop]; unfold sizeLine; omega)
  | (simp; unfold sizeLine; omega)
  | fail "sz")
local macro_rules | `(tactic| nest_cls) => `(tactic| first
  | (tb_rel; done)
  | (with_reducible apply nmI; (focus (tb_rel; done)))
  | (with_reducible apply d_tup; (focus (tb_rel; done)); (focus (lsm_bools; done)))
  | (with_reducible apply d_lst; (focus (tb_rel; done)); (focus (lsm_bools; done)))
  | fail "dp")
local macro_rules | `(tactic| lsm_bools) => `(tactic| repeat (first
  | with_reducible exact DpAll.nil
  | with_reducible assumption
  | (with_reducible apply DpAll.cons; (focus (nest_cls; done)))
  | fail "dpa"))
local macro_rules | `(tactic| none_booked) => `(tactic| first | with_unfolding_all exact rfl | (with_reducible apply atI_nat; with_reducible assumption) | fail "ix")
local macro_rules | `(tactic| walk_at "go") => `(tactic| repeat (first
  | (focus (with_reducible refine go_var (v := ?_) ?_ ?_; rotate_left; (focus (with_unfolding_all exact rfl))))
  | with_reducible refine go_seq ?_
  | with_reducible refine go_cN ?_
  | with_reducible refine go_c ?_
  | with_reducible refine go_op ?_
  | with_reducible refine go_nil ?_
  | with_reducible refine go_cons ?_
  | with_reducible refine go_cb ?_
  | with_reducible refine go_call0 ?_
  | with_reducible refine go_asg ?_
  | (focus (with_reducible refine go_gname (σ' := ?_) ?_ ?_; rotate_left; (focus (simp only [List.set_cons_succ, List.set_cons_zero]; exact rfl))))
  | with_reducible refine go_par ?_
  | with_reducible refine go_par3 ?_
  | (focus (with_reducible refine go_par3k (σ' := ?_) ?_ ?_; rotate_left; (focus (simp only [List.set_cons_succ, List.set_cons_zero]; exact rfl))))
  | with_reducible refine go_bm ?_
  | (with_reducible apply go_bmL; (focus (tb_rel; done)))
  | (with_reducible apply go_fdX; (focus (with_reducible assumption; done)))
  | (with_reducible apply go_rI; (focus (with_reducible assumption; done)))
  | (focus (with_reducible refine go_par2 (σ' := ?_) ?_ ?_; rotate_left; (focus (simp only [List.set_cons_succ, List.set_cons_zero]; exact rfl))))
  | with_reducible refine go_ifs ?_
  | with_reducible refine go_test ?_
  | with_reducible refine go_tb ?_
  | with_reducible refine go_asb ?_
  | with_reducible refine go_asi ?_
  | with_reducible refine go_ret ?_
  | with_reducible refine go_retn ?_
  | with_reducible refine go_drop ?_
  | with_reducible refine go_next ?_
  | with_reducible refine go_and ?_
  | with_reducible refine go_or ?_
  | with_reducible refine go_not ?_
  | with_reducible refine go_andv ?_
  | with_reducible refine go_orv ?_
  | with_reducible refine go_notv ?_
  | with_reducible refine go_ife ?_
  | with_reducible refine go_chain ?_
  | with_reducible refine go_if1 ?_
  | with_reducible refine go_if0 ?_
  | with_reducible refine go_ifn1 ?_
  | with_reducible refine go_ifn0 ?_
  | (with_reducible apply go_ift; (focus (first | with_reducible rfl | with_reducible assumption | omega)))
  | (with_reducible apply go_ifnt; (focus (first | with_reducible rfl | with_reducible assumption | omega)))
  | (with_reducible apply go_iff; (focus (first | with_reducible assumption | omega)))
  | (with_reducible apply go_ifnf; (focus (first | with_reducible assumption | omega)))
  | with_reducible refine go_un ?_
  | with_reducible refine go_tup ?_
  | with_reducible refine go_lst ?_
  | (with_reducible apply go_newt; (focus (lcg_sub; done)); intros)
  | (with_reducible apply go_newl; (focus (lcg_sub; done)); intros)
  | with_reducible refine go_meth ?_
  | with_reducible refine go_for ?_
  | with_reducible refine go_lc ?_
  | with_reducible refine go_irng1 ?_
  | with_reducible refine go_irng2 ?_
  | with_reducible refine go_ilist ?_
  | with_reducible refine go_itup ?_
  | with_reducible refine go_izip ?_
  | with_reducible refine go_ienum ?_
  | (with_reducible apply go_rg1; (focus (lcg_src; done)))
  | (with_reducible apply go_rg2; (focus (lcg_src; done)); (focus (lcg_src; done)))
  | (with_reducible apply go_lsr; (focus (tb_rel; done)))
  | (with_reducible apply go_tpr; (focus (tb_rel; done)))
  | (with_reducible apply go_zpr; (focus (tb_rel; done)); (focus (tb_rel; done)))
  | (with_reducible apply go_zprT; (focus (tb_rel; done)); (focus (tb_rel; done)))
  | (with_reducible apply go_enrL; (focus (tb_rel; done)))
  | (with_reducible apply go_enrT; (focus (tb_rel; done)))
  | with_reducible refine go_prop ?_
  | with_reducible refine go_knr0 ?_
  | (with_reducible apply go_knr; (focus (with_unfolding_all exact rfl; done)); (focus (simp only [kSw2, kRev3, kId, List.nil_append, List.cons_append]; exact rfl)))
  | with_reducible refine go_mkn ?_
  | (with_reducible apply go_mkr; (focus (tb_rel; done)); (focus (with_unfolding_all exact rfl; done)))
  | with_reducible refine go_fld ?_
  | (with_reducible apply go_flr; (focus (tb_rel; done)); (focus (with_reducible assumption; done)); (focus (with_reducible assumption; done)); (focus (with_unfolding_all exact rfl; done)))
  | (with_reducible apply go_prr; (focus (tb_rel; done)))
  | (with_reducible apply go_mer; (focus (tb_rel; done)); (focus (with_unfolding_all exact rfl; done)))
  | with_reducible refine go_sfld ?_
  | (with_reducible apply go_sfr; (focus (tb_rel; done)); (focus (with_reducible assumption; done)); (focus (with_reducible assumption; done)); (focus (with_unfolding_all exact Nat.le_of_ble_eq_true rfl; done)); (focus (with_unfolding_all exact rfl; done)); intros)
  | with_reducible refine go_revt ?_
  | with_reducible refine go_make0 ?_
  | (focus (with_reducible refine go_aug (x := ?_) ?_ ?_; rotate_left; (focus (with_unfolding_all exact rfl))))
  | (focus (with_reducible refine go_augk (σ' := ?_) ?_ ?_; rotate_left; (focus (simp only [List.set_cons_succ, List.set_cons_zero]; exact rfl))))
  | with_reducible refine go_min2 ?_
  | with_reducible refine go_int1 ?_
  | with_reducible refine go_max2 ?_
  | with_reducible refine go_intB ?_
  | with_reducible refine go_absN ?_
  | with_reducible refine go_isN ?_
  | with_reducible refine go_notN ?_
  | (with_reducible apply go_rvt; (focus (tb_rel; done)); (focus (simp only [List.reverse_cons, List.reverse_nil, List.nil_append, List.cons_append]; exact rfl)); intros)
  | (with_reducible apply go_reprNm; (focus (tb_rel; done)); (focus (with_reducible assumption; done)))
  | (with_reducible apply go_reprPr; (focus (nest_cls; done)); (focus (lcg_src; done)); (focus (lcg_src; done)))
  | with_reducible refine go_sl ?_
  | with_reducible refine go_part ?_
  | with_reducible refine go_nopart ?_
  | (with_reducible apply go_gtup; (focus (tb_rel; done)); (focus (with_unfolding_all exact rfl; done)))
  | (with_reducible apply go_gunl; (focus (tb_rel; done)); (focus (with_unfolding_all exact rfl; done)))
  | with_reducible refine go_gcons ?_
  | with_reducible refine go_gnil ?_
  | with_reducible refine go_addN ?_
  | with_reducible refine go_ltN ?_
  | with_reducible refine go_leN ?_
  | with_reducible refine go_gtN ?_
  | with_reducible refine go_geN ?_
  | (with_reducible apply go_subN; (focus (omega; done)))
  | with_reducible refine go_rI0 ?_
  | (with_reducible apply go_mulN; (focus (omega; done)))
  | (with_reducible apply go_modN; (focus (omega; done)))
  | (with_reducible apply go_divN; (focus (omega; done)))
  | (with_reducible apply go_powN; (focus (with_unfolding_all decide; done)))
  | with_reducible refine go_rU ?_
  | with_reducible refine go_eqN ?_
  | with_reducible refine go_neN ?_
  | with_reducible refine go_isB ?_
  | with_reducible refine go_notB ?_
  | with_reducible refine go_eqS ?_
  | with_reducible refine go_neS ?_
  | with_reducible refine go_eqB ?_
  | with_reducible refine go_eqI ?_
  | with_reducible refine go_neI ?_
  | (with_reducible apply go_ixt; (focus (tb_rel; done)); (focus (none_booked; done)))
  | (with_reducible apply go_ixl; (focus (tb_rel; done)); (focus (none_booked; done)))
  | (with_reducible apply go_lent; (focus (tb_rel; done)))
  | (with_reducible apply go_lenNm; (focus (tb_rel; done)))
  | (with_reducible apply go_isiNm; (focus (tb_rel; done)))
  | (with_reducible apply go_lenl; (focus (tb_rel; done)))
  | (with_reducible apply go_catA; (focus (tb_rel; done)); (focus (tb_rel; done)); (focus (lcg_sub; done)); intros)
  | (with_reducible apply go_slaT; (focus (tb_rel; done)); intros)
  | (with_reducible apply go_slaD; (focus (tb_rel; done)); intros)
  | (with_reducible apply go_rep; (focus (tb_rel; done)); (focus (lcg_src; done)); intros)
  | (with_reducible apply go_tupofl; (focus (tb_rel; done)); intros)
  | (with_reducible apply go_sllT; (focus (tb_rel; done)); intros)
  | (with_reducible apply go_sllD; (focus (tb_rel; done)); intros)
  | (with_reducible apply go_cat; (focus (tb_rel; done)); (focus (tb_rel; done)); (focus (lcg_sub; done)); intros)
  | (with_reducible apply go_mkrat; with_reducible assumption; with_reducible assumption; intros)
  | (with_reducible apply go_mkrat1; intros)
  | (with_reducible apply go_merR; (focus (tb_rel; done)); (focus decide); (focus decide))
  | (with_reducible apply go_prR; (focus (tb_rel; done)))
  | (with_reducible apply c_asratio; (focus (tb_rel; done)); intros)
  | (with_reducible apply c_rbelow; (focus (tb_rel; done)); (focus (tb_rel; done)); (focus (lcg_src; done)); (focus (lcg_src; done)); intros)
  | (with_reducible apply c_req; (focus (tb_rel; done)); (focus (tb_rel; done)); intros)
  | (with_reducible apply c_rinit; (focus (tb_rel; done)); (focus (lcg_src; done)); (focus (lcg_src; done)); intros)
  | (with_reducible apply c_rmul; (focus (tb_rel; done)); (focus (tb_rel; done)); (focus (lcg_src; done)); (focus (lcg_src; done)); intros)
  | (with_reducible apply c_rover; (focus (tb_rel; done)); (focus (tb_rel; done)); (focus (lcg_src; done)); (focus (lcg_src; done)); (focus (lcg_src; done)); intros)
  | (with_reducible apply c_rsign; (focus (tb_rel; done)); intros)
  | (with_reducible apply c_wantnum; (focus (tb_rel; done)); intros)
  | fail "go"))
theorem ok_rmul {f : Addr} {fd : FuncData} (F : Df K "__mul__" "Ratio.__mul__" s_rmul [] f fd) (GR : RtG K mg CR) (cWnu : Ca P w K mg base 3 "want_number" (sp_wantnum CR) []) (cAs : Ca P w K mg base 4 "as_ratio" (sp_asratio CR) []) (cRt : Ma P w K mg base 2 "Ratio" CR (sp_rinit CR) []) : FnOk P w K mg base CX0 5 f fd ["self", "other"] (sp_rmul CR) := by
  refine dfOk F sc_rmul (fun vs H Q E h => ?_) (fun cdv A outer s H vs Q E hr h => ?_)
  · obtain ⟨v, u, q, r, rfl, _⟩ := h
    rfl
  · obtain ⟨v, u, q, r, rfl, ⟨a, dx, rfl, ea⟩, hu, sq, sr, k⟩ := h
    have cl := GR.I.cl
    have nT := GR.nT
    have nB := GR.nB
    have m1 : CMulW q.num r.num := SzQ.cmul sq.1 sr.1
    have m2 : CMulW (q.den : Int) (r.den : Int) := SzQ.cmul (by rw [Int.natAbs_natCast]; exact sq.2) (by rw [Int.natAbs_natCast]; exact sr.2)
    have n1 : (q.den : Int) * (r.den : Int) ≠ 0 := Int.mul_ne_zero (by have := den_pos q; omega) (by have := den_pos r; omega)
    have l1 : ((q.den : Int) * (r.den : Int)).natAbs.log2 < 9000 := log_mul (by rw [Int.natAbs_natCast]; exact sq.2) (by rw [Int.natAbs_natCast]; exact sr.2)
    refine ⟨_, (pss_cons (ps_expr (pe_ca cWnu hr (by decide) (by rfl) (pa_cons (pv 1) pa_nil)))
  (pss_cons (ps_set (i := 2) sc_rmul.nd rfl (Or.inl rfl) (pe_ca cAs hr (by decide) (by rfl) (pa_cons (pv 1) pa_nil)))
  (pss_one (ps_ret (pe_ma cRt hr (by decide) (by rfl) (pa_cons (pe_op op_mulW (pe_fld' (pv 0) rfl) (pe_fld' (pv 2) rfl)) (pa_cons (pe_op op_mulW (pe_fld' (pv 0) rfl) (pe_fld' (pv 2) rfl)) pa_nil))))))), ?_⟩
    refine go_start (σ := [some _, some _, none]) rfl ?_
    walk_at "go"
    rename_i x H1 nx s1 hx
    rw [q_mul] at hx
    obtain ⟨b, dy, e, eb⟩ := hx
    cases e
    exact k _ _ _ (by tb_rel) eb
theorem ok_rover {f : Addr} {fd : FuncData} (F : Df K "over" "Ratio.over" s_rover [] f fd) (GR : RtG K mg CR) (cWnu : Ca P w K mg base 3 "want_number" (sp_wantnum CR) []) (cAs : Ca P w K mg base 4 "as_ratio" (sp_asratio CR) []) (cRt : Ma P w K mg base 2 "Ratio" CR (sp_rinit CR) []) : FnOk P w K mg base CX0 5 f fd ["self", "other"] (sp_rover CR) := by
  refine dfOk F sc_rover (fun vs H Q E h => ?_) (fun cdv A outer s H vs Q E hr h => ?_)
  · obtain ⟨v, u, q, r, rfl, _⟩ := h
    rfl
  · obtain ⟨v, u, q, r, rfl, ⟨a, dx, rfl, ea⟩, hu, r0, sq, sr, k⟩ := h
    have cl := GR.I.cl
    have nT := GR.nT
    have nB := GR.nB
    have rn := num_ne r0
    have m1 : CMulW q.num (r.den : Int) := SzQ.cmul sq.1 (by rw [Int.natAbs_natCast]; exact sr.2)
    have m2 : CMulW (q.den : Int) r.num := SzQ.cmul (by rw [Int.natAbs_natCast]; exact sq.2) sr.1
    have n1 : (q.den : Int) * r.num ≠ 0 := Int.mul_ne_zero (by have := den_pos q; omega) rn
    have l1 : ((q.den : Int) * r.num).natAbs.log2 < 9000 := log_mul (by rw [Int.natAbs_natCast]; exact sq.2) sr.1
    refine ⟨_, (pss_cons (ps_expr (pe_ca cWnu hr (by decide) (by rfl) (pa_cons (pv 1) pa_nil)))
  (pss_cons (ps_set (i := 2) sc_rover.nd rfl (Or.inl rfl) (pe_ca cAs hr (by decide) (by rfl) (pa_cons (pv 1) pa_nil)))
  (pss_cons (ps_if (pt_cmpR op_eq (pe_fld' (pv 2) rfl) pe_int (nomark _))
  pss_never
  pss_nil)
  (pss_one (ps_ret (pe_ma cRt hr (by decide) (by rfl) (pa_cons (pe_op op_mulW (pe_fld' (pv 0) rfl) (pe_fld' (pv 2) rfl)) (pa_cons (pe_op op_mulW (pe_fld' (pv 0) rfl) (pe_fld' (pv 2) rfl)) pa_nil)))))))), ?_⟩
    refine go_start (σ := [some _, some _, none]) rfl ?_
    walk_at "go"
    rename_i x H1 nx s1 hx
    rw [q_over] at hx
    obtain ⟨b, dy, e, eb⟩ := hx
    cases e
    exact k _ _ _ (by tb_rel) eb
theorem ok_rbelow {f : Addr} {fd : FuncData} (F : Df K "is_below" "Ratio.is_below" s_rbelow [] f fd) (GR : RtG K mg CR) (cWnu : Ca P w K mg base 3 "want_number" (sp_wantnum CR) []) (cAs : Ca P w K mg base 4 "as_ratio" (sp_asratio CR) []) : FnOk P w K mg base CX0 5 f fd ["self", "other"] (sp_rbelow CR) := by
  refine dfOk F sc_rbelow (fun vs H Q E h => ?_) (fun cdv A outer s H vs Q E hr h => ?_)
  · obtain ⟨v, u, q, r, rfl, _⟩ := h
    rfl
  · obtain ⟨v, u, q, r, rfl, ⟨a, dx, rfl, ea⟩, hu, sq, sr, k⟩ := h
    have cl := GR.I.cl
    have nT := GR.nT
    have nB := GR.nB
    have m1 : CMulW q.num (r.den : Int) := SzQ.cmul sq.1 (by rw [Int.natAbs_natCast]; exact sr.2)
    have m2 : CMulW r.num (q.den : Int) := SzQ.cmul sr.1 (by rw [Int.natAbs_natCast]; exact sq.2)
    have e : decide (q.num * (r.den : Int) < r.num * (q.den : Int)) = decide (q < r) := decide_eq_decide.mpr (Rat.lt_iff q r).symm
    refine ⟨_, (pss_cons (ps_expr (pe_ca cWnu hr (by decide) (by rfl) (pa_cons (pv 1) pa_nil)))
  (pss_cons (ps_set (i := 2) sc_rbelow.nd rfl (Or.inl rfl) (pe_ca cAs hr (by decide) (by rfl) (pa_cons (pv 1) pa_nil)))
  (pss_one (ps_ret (pe_cmpR op_lt (pe_op op_mulW (pe_fld' (pv 0) rfl) (pe_fld' (pv 2) rfl)) (pe_op op_mulW (pe_fld' (pv 2) rfl) (pe_fld' (pv 0) rfl)) (nomark _)))))), ?_⟩
    refine go_start (σ := [some _, some _, none]) rfl ?_
    walk_at "go"
    rw [e]
    exact k _ (by tb_rel)
theorem rsign_eq (n : Int) : (((if decide (((0 : Nat) : Int) < n) = true then 1 else 0 : Nat) : Int) - ((if decide (n < ((0 : Nat) : Int)) = true then 1 else 0 : Nat) : Int)) = n.sign := by
  rcases Int.lt_trichotomy n 0 with h | h | h
  · have a : ¬ (((0 : Nat) : Int) < n) := by omega
    have b : n < ((0 : Nat) : Int) := by omega
    rw [Int.sign_eq_neg_one_of_neg h, if_neg (by simpa using a), if_pos (by simpa using b)]
    rfl
  · subst h
    rfl
  · have a : (((0 : Nat) : Int) < n) := by omega
    have b : ¬ n < ((0 : Nat) : Int) := by omega
    rw [Int.sign_eq_one_of_pos h, if_pos (by simpa using a), if_neg (by simpa using b)]
    rfl
theorem ok_rsign {f : Addr} {fd : FuncData} (F : Df K "sign" "Ratio.sign" s_rsign [] f fd) (B : Blt mg) (GR : RtG K mg CR) : FnOk P w K mg base CX0 1 f fd ["self"] (sp_rsign CR) := by
  refine dfOk F sc_rsign (fun vs H Q E h => ?_) (fun cdv A outer s H vs Q E hr h => ?_)
  · obtain ⟨v, q, rfl, _⟩ := h
    rfl
  · obtain ⟨v, q, rfl, ⟨a, dx, rfl, ea⟩, k⟩ := h
    have cl := GR.I.cl
    have nT := GR.nT
    refine ⟨_, (pss_one (ps_ret (pe_op op_sub (pe_callTy call_int1' (by rfl) B.int bt_int (pa_cons (pe_cmpR op_gt (pe_fld' (pv 0) rfl) pe_int (nomark _)) pa_nil)) (pe_callTy call_int1' (by rfl) B.int bt_int (pa_cons (pe_cmpR op_lt (pe_fld' (pv 0) rfl) pe_int (nomark _)) pa_nil))))), ?_⟩
    refine go_start (σ := [some _]) rfl ?_
    walk_at "go"
    rw [rsign_eq]
    exact k
theorem ok_req {f : Addr} {fd : FuncData} (F : Df K "__eq__" "Ratio.__eq__" s_req [] f fd) (B : Blt mg) (GR : RtG K mg CR) : FnOk P w K mg base CX0 1 f fd ["self", "other"] (sp_req CR) := by
  refine dfOk F sc_req (fun vs H Q E h => ?_) (fun cdv A outer s H vs Q E hr h => ?_)
  · obtain ⟨v, u, q, r, rfl, _⟩ := h
    rfl
  · obtain ⟨v, u, q, r, rfl, ⟨a, dx, rfl, ea⟩, ⟨b, dy, rfl, eb⟩, k⟩ := h
    have cl := GR.I.cl
    have nT := GR.nT
    have nB := GR.nB
    refine ⟨_, (pss_one (ps_ret (pe_and (pe_callB call_isi' (by rfl) B.isinstance bt_isinstance (pa_cons (pv 1) (pa_cons (pe_glob (by rfl) GR.mgC (v := .ref CR) rfl) pa_nil))) (pe_and (pe_cmpR op_eq (pe_fld' (pv 0) rfl) (pe_fld' (pv 1) rfl) (nomark _)) (pe_one (pe_cmpR op_eq (pe_fld' (pv 0) rfl) (pe_fld' (pv 1) rfl) (nomark _))))))), ?_⟩
    refine go_start (σ := [some _, some _]) rfl ?_
    walk_at "go"
    refine go_isi (GR.I.ty eb) GR.I.me ?_
    walk_at "go"
    by_cases e1 : q.num = r.num
    · refine go_ift e1 ?_
      walk_at "go"
      have e : decide (q.den = r.den) = decide (q = r) := decide_eq_decide.mpr ⟨fun h => Rat.ext e1 h, fun h => by rw [h]⟩
      rw [e]
      exact k
    · refine go_iff e1 ?_
      rw [decide_eq_false (fun z => e1 (by rw [z]))] at k
      exact k
end
end T
set_option Elab.async false
set_option maxRecDepth 100000
namespace Mv
open PySem PySem.Spec PyProof.Rows L2
/-- C(e, .., k = v, ..): n values by place, the keywords ks -/
structure MaN (P : Program) (w : World) (K : PySem.W.Frag) (mg : Str → Option Value) (base : Heap) (k : Nat) (x : Str) (C : Addr) (sp : Sp) (n : Nat) (ks : List Str) (gV : List V → List V → List V) : Prop where
  ex : ∃ (f : Addr) (fd : FuncData) (ps : List Str) (g : List Value → List Value → List Value), Mk K C f ∧ FnOk P w K mg base CX0 k f fd ps sp ∧ mg x = some (.ref C) ∧ KBn K fd ps (n + 1) ks g gV
section
variable {X : Cx} {k j n : Nat} {C : Addr} {ks : List Str} {sp : Sp} {x : Str} {p pos : Pos} {e : Expr} {es : List Expr} {kws : List Keyword} {t tk : TA} {gV : List V → List V → List V}
theorem pe_man (c : MaN X.prog X.w X.K X.mg X.base k x C sp n ks gV) (hr : Room j X.A) (hk : k + 1 ≤ j) (hg : Gl X x) (ha : PA X (e :: es) t) (hkw : PK X kws tk)
    (hall : (backToKw pos (keywordEach kws X.env)).all (·.1.isSome) = true := by rfl) (hks : (backToKw pos (keywordEach kws X.env)).filterMap (·.1) = ks := by rfl)
    (hdb : (x == ("__debug__" : Str)) = false := by decide) (he : starEach (e :: es) X.env = (false, eval e X.env) :: starEach es X.env := by rfl)
    (hpl : ((backTo pos (starEach (e :: es) X.env)).any (·.1) || (backToKw pos (keywordEach kws X.env)).any (·.1.isNone)) = false := by rfl) :
    PE X (.Call (.Name x p) (e :: es) kws pos) (tMakeK C n ks.length sp gV E0 t tk) := by
  obtain ⟨f, fd, ps, g, M, F, hm, b⟩ := c.ex
  exact pe_makeK M F (hr.mono hk) hg hm b pass0 ha hkw hall hks hdb he hpl
end
section
variable {σ : L2.St} {H : Hp} {Q : VK} {t tk : TA} {C : Addr} {sp : Sp} {n m : Nat} {E : XK} {gV : List V → List V → List V}
/-- behind the keywords of a making -/
def MakK (C : Addr) (n m : Nat) (sp : Sp) (gV : List V → List V → List V) (E : XK) (Q : VK) (vs zs : List V) (H2 : Hp) : Prop := vs.length = n ∧ zs.length = m ∧ ∀ x dx, H2 x = none → H2 dx = none → dx ≠ x →
  sp (gV (.ref x :: vs) zs) (upd (upd H2 dx (.own x)) x (.ins C dx [])) (fun v H3 => v = .non ∧ Q (.ref x) H3) E
def MakA (C : Addr) (n m : Nat) (sp : Sp) (gV : List V → List V → List V) (E : XK) (Q : VK) (tk : TA) (σ : L2.St) (vs : List V) (H1 : Hp) : Prop := tk σ H1 fun zs H2 => MakK C n m sp gV E Q vs zs H2
theorem go_makeK (q : t σ H fun vs H1 => MakA C n m sp gV E Q tk σ vs H1) : tMakeK C n m sp gV E t tk σ H Q := q
theorem go_makA {vs : List V} (q : tk σ H fun zs H2 => MakK C n m sp gV E Q vs zs H2) : MakA C n m sp gV E Q tk σ vs H := q
theorem op_in_seq' {X : Cx} {K : PySem.W.Frag} (e : X.K = K := by (conv => lhs; whnf)) : OpR X (compareOp .In) (rIn K false) := by
  subst e
  exact op_in_seq
theorem op_notIn_seq' {X : Cx} {K : PySem.W.Frag} (e : X.K = K := by (conv => lhs; whnf)) : OpR X (compareOp .NotIn) (rIn K true) := by
  subst e
  exact op_notIn_seq
theorem DpAll.strsE {K : PySem.W.Frag} {H : Hp} : ∀ {xs : List V} {ss : List Str}, DpAll K H xs (ss.map PyData.str) → xs = ss.map V.str
  | _, [], .nil => rfl
  | _, i :: is, .cons a h => by rw [a.strE, DpAll.strsE h]; rfl
theorem in_strs (s : Str) (ss : List Str) : inV (.str s) (ss.map V.str) = decide (s ∈ ss) := by
  induction ss with
  | nil => rfl
  | cons a l ih =>
    show (eqV (.str a) (.str s) || inV (.str s) (l.map V.str)) = _
    rw [ih]
    show ((a == s) || _) = _
    by_cases h : a = s
    · subst h
      simp
    · have : (a == s) = false := by simpa using h
      rw [this]
      simp [Ne.symm h]
theorem flat_strs (ss : List Str) : (ss.map V.str).all flatV = true := by
  rw [List.all_eq_true]
  intro x hx
  obtain ⟨y, _, rfl⟩ := List.mem_map.mp hx
  rfl
/-- in, not in, of a list or tuple of texts -/
theorem go_inSL {K : PySem.W.Frag} {v : V} {s : Str} {ss : List Str} {neg : Bool} (h : Dp K H v (.list (ss.map .str))) (q : Q (.bl (if neg then !decide (s ∈ ss) else decide (s ∈ ss))) H) : rIn K neg (.str s) v H Q := by
  obtain ⟨a, xs, rfl, hs, ha⟩ := h.lstE
  obtain rfl := DpAll.strsE ha
  exact ⟨a, _, rfl, .inl hs, rfl, flat_strs ss, by rw [in_strs]; exact q⟩
/-- the keywords behind the values by place -/
def gApp {α : Type} (us ws : List α) : List α := us ++ ws
theorem gApp_rel {vs zs : List V} {us ws : List Value} (r1 : Vals vs us) (r2 : Vals zs ws) : Vals (gApp vs zs) (gApp us ws) := r1.append r2
end
section
variable {K : PySem.W.Frag} {σ : L2.St} {H : Hp} {Q : VK} {vs : List Nat} {xs ys : List V} {te : TE} {g : TG} {a : Addr}
theorem pi_enumA' {X : Cx} {e : Expr} {ta : TA} {p pos tpos : Pos} {elts : List Expr} {kk : Nat} (hg : Gl X "enumerate") (hm : X.mg "enumerate" = none) (ha : PA X [e] ta) (eK : X.K = K := by (conv => lhs; whnf)) (hs : starEach [e] X.env = [(false, eval e X.env)] := by rfl) :
    PI X (.Tuple elts kk tpos) (.Call (.Name "enumerate" p) [e] [] pos) (iEnumA K ta) := by
  subst eK
  exact pi_enumA hg hm ha hs
/-- a comprehension over enumerate, of data without lists -/
theorem lcEnum {b : Bool} {i1 i2 : Nat} (f : Nat → PyData) (ha : SqK b K H a xs) (hk : ∀ H', Same H H' → SqK b K H' a xs) (hz : xs.length ≤ 100000) (hl : ∀ i, i < xs.length → NL (f i) = true) (hw : ∀ x y, wipe (((wipe σ vs).set i1 (some x)).set i2 (some y)) vs = wipe σ vs)
    (hs : ∀ (i : Nat) (x : V) (H1 : Hp) (Q' : VK), i < xs.length → xs[i]? = some x → Same H H1 → (∀ y H4, Same H1 H4 → Dp K H4 y (f i) → Q' y H4) → te (((wipe σ vs).set i1 (some (.int (i : Int)))).set i2 (some x)) H1 Q')
    (hd : ∀ D H' ys, H D = none → Same H H' → H' D = some (.lst ys) → DpAll K H' ys ((List.range xs.length).map f) → Q (.ref D) H') : LcR (gTup K 2 (gCons (gName i1) (gCons (gName i2) gNil))) tYes te vs σ Q (IteK b K a) H :=
  lcGen walk_enumK f hz hl (fun H' s => hk H' s) (fun i x H1 H2 Q' hi s1 hy hq => by
    obtain ⟨T, x', y', rfl, hT, rfl, e1, e2⟩ := hy
    obtain rfl := Option.some.inj e1
    have sT : Same H1 (upd H1 T (.tup [.int (i : Nat), y'])) := same_new hT
    refine ⟨T, _, rfl, .inl (.inl upd_same), rfl, _, _, rfl, _, _, rfl, rfl, hw _ _, hs i y' _ Q' hi e2 (s1.trans sT) fun y H4 s4 dy => hq y H4 (sT.trans s4) dy⟩) hd gTup2_mono
/-- a comprehension of objects: what holds of each stays when the heap grows, and when the list in making changes -/
theorem lcObj {J : It} {k : Nat} {G : Hp → Prop} {Y : Nat → Hp → V → Hp → Prop} (w : Walk J k G Y) (Rp : Nat → V → Hp → Prop) (hz : k ≤ 100000) (hm : ∀ i y H1 H2, Same H1 H2 → Rp i y H1 → Rp i y H2) (hu : ∀ i y H1 D zs o, H1 D = some (.lst zs) → Rp i y H1 → Rp i y (upd H1 D o)) (hG : ∀ H', Same H H' → G H')
    (hs : ∀ (i : Nat) (x : V) (H1 H2 : Hp) (Q' : VK), i < k → Same H H1 → Y i H1 x H2 → (∀ y H4, Same H1 H4 → Rp i y H4 → Q' y H4) → g x (wipe σ vs) H2 fun σ2 H3 => wipe σ2 vs = wipe σ vs ∧ te σ2 H3 Q')
    (hd : ∀ D H' ys, H D = none → Same H H' → H' D = some (.lst ys) → ys.length = k → (∀ (i : Nat) y, ys[i]? = some y → Rp i y H') → Q (.ref D) H') (hg : ∀ x σ' H' (P Q : L2.St → Hp → Prop), (∀ σ2 H2, P σ2 H2 → Q σ2 H2) → g x σ' H' P → g x σ' H' Q) : LcR g tYes te vs σ Q J H := by
  intro D hD
  refine lc_it w (fun i H' => Same H H' ∧ ∃ ys, H' D = some (.lst ys) ∧ ys.length = i ∧ ∀ (i : Nat) y, ys[i]? = some y → Rp i y H') ⟨same_new hD, [], upd_same, rfl, fun i y h => by simp at h⟩ (fun i H' _ h => hG H' h.1) ?_ ?_
  · rintro i x H1 H2 hi ⟨s, ys, ed, hlen, ha⟩ hy
    refine hg x _ H2 _ _ (fun σ2 H2 h => ⟨h.1, h.2⟩) (hs i x H1 H2 (fun y H4 => ∃ acc, H4 D = some (.lst acc) ∧ acc.length < sizeLine ∧ Same H (upd H4 D (.lst (acc ++ [y]))) ∧ ∃ ys, upd H4 D (.lst (acc ++ [y])) D = some (.lst ys) ∧ ys.length = i + 1 ∧ ∀ (i : Nat) z, ys[i]? = some z → Rp i z (upd H4 D (.lst (acc ++ [y])))) hi s hy fun y H4 s4 ry => ?_)
    have e4 := s4 _ _ ed
    refine ⟨ys, e4, ?_, same_over (s.trans s4) hD, ys ++ [y], upd_same, by simp [hlen], fun j z hz' => ?_⟩
    · rw [hlen]; unfold sizeLine; omega
    · rcases Nat.lt_trichotomy j ys.length with c | c | c
      · rw [List.getElem?_append_left c] at hz'
        exact hu _ _ _ _ _ _ e4 (hm _ _ _ _ s4 (ha j z hz'))
      · subst c
        rw [List.getElem?_append_right (Nat.le_refl _), Nat.sub_self] at hz'
        obtain rfl := Option.some.inj hz'
        rw [hlen]
        exact hu _ _ _ _ _ _ e4 ry
      · rw [List.getElem?_eq_none (by simp; omega)] at hz'
        cases hz'
  · rintro H1 ⟨s, ys, ed, hlen, ha⟩
    exact hd D H1 ys hD s ed hlen ha
/-- a comprehension with a test over a tuple: what is kept is not told -/
theorem lcFilT {j : Nat} {tt : TT} (ha : SqT K H a xs) (hz : xs.length ≤ 100000) (hw : ∀ x, wipe ((wipe σ vs).set j (some x)) vs = wipe σ vs)
    (ht : ∀ (i : Nat) (x : V) (H1 : Hp) (R : Bool → Hp → Prop), i < xs.length → xs[i]? = some x → Same H H1 → (∀ b H2, Same H1 H2 → R b H2) → tt ((wipe σ vs).set j (some x)) H1 R)
    (he : ∀ (i : Nat) (x : V) (H1 : Hp) (Q' : VK), i < xs.length → xs[i]? = some x → Same H H1 → (∀ y H2, Same H1 H2 → Q' y H2) → te ((wipe σ vs).set j (some x)) H1 Q')
    (hd : ∀ D H' ys, H D = none → Same H H' → H' D = some (.lst ys) → Q (.ref D) H') : LcR (gName j) tt te vs σ Q (Itt K a) H := by
  intro D hD
  refine lc_it walk_tup (fun i H' => Same H H' ∧ ∃ ys, H' D = some (.lst ys) ∧ ys.length ≤ i) ⟨same_new hD, [], upd_same, Nat.le_refl _⟩ (fun i H' _ h => Same.tup h.1 ha) ?_ ?_
  · rintro i x H1 H2 hi ⟨s, ys, ed, hlen⟩ ⟨rfl, hx⟩
    refine ⟨hw _, ht i x _ _ hi hx s fun b H3 s3 => ?_⟩
    cases b with
    | false => exact ⟨s.trans s3, ys, s3 _ _ ed, by omega⟩
    | true =>
      refine he i x _ _ hi hx (s.trans s3) fun y H4 s4 => ⟨ys, s4 _ _ (s3 _ _ ed), by unfold sizeLine; omega, same_over ((s.trans s3).trans s4) hD, ys ++ [y], upd_same, by simp; omega⟩
  · rintro H1 ⟨s, ys, ed, _⟩
    exact hd D H1 ys hD s ed
end
end Mv
set_option Elab.async false
set_option maxRecDepth 100000
set_option maxHeartbeats 4000000
namespace T
open PySem L2 Mv
abbrev s_islen : Stmt := top 51
theorem sc_islen : FnScope ["value"] ["value"] (defScope s_islen) := ⟨rfl, rfl, rfl, by decide +kernel, rfl, by decide +kernel, by decide +kernel⟩
abbrev s_wantlen : Stmt := top 52
theorem sc_wantlen : FnScope ["value"] ["value"] (defScope s_wantlen) := ⟨rfl, rfl, rfl, by decide +kernel, rfl, by decide +kernel, by decide +kernel⟩
abbrev s_areaxes : Stmt := top 53
theorem sc_areaxes : FnScope ["value", "axis", "position"] ["value"] (defScope s_areaxes) := ⟨rfl, rfl, rfl, by decide +kernel, rfl, by decide +kernel, by decide +kernel⟩
section
variable {P : Program} {w : World} {K : PySem.W.Frag} {mg : Str → Option Value} {base : Heap} {C AX CR : Addr}
theorem num_pos {r : Rat} (h : 0 < r) : 0 < r.num := by
  rw [Rat.lt_iff] at h
  simpa using h
def sp_islen (CR : Addr) : Sp := fun vs H Q _ => ∃ (v : V) (r : Rat), vs = [v] ∧ NumAt CR H v r ∧ 0 < r ∧ ∀ H', Same H H' → Q (.bl true) H'
theorem c_islen {CR : Addr} {v : V} {r : Rat} {H : Hp} {Q : VK} {E : XK} (h0 : NumAt CR H v r) (h1 : 0 < r) (q : ∀ H', Same H H' → Q (.bl true) H') : sp_islen CR [v] H Q E := ⟨_, _, rfl, h0, h1, q⟩
def sp_wantlen (CR : Addr) : Sp := fun vs H Q _ => ∃ (v : V) (r : Rat), vs = [v] ∧ NumAt CR H v r ∧ 0 < r ∧ ∀ H', Same H H' → Q .non H'
theorem c_wantlen {CR : Addr} {v : V} {r : Rat} {H : Hp} {Q : VK} {E : XK} (h0 : NumAt CR H v r) (h1 : 0 < r) (q : ∀ H', Same H H' → Q .non H') : sp_wantlen CR [v] H Q E := ⟨_, _, rfl, h0, h1, q⟩
/-- a list of axes -/
abbrev pAxs (l : List Nat) : PyData := .list ((l.map axn).map .str)
def AxOk (l : List Nat) : Prop := l.Nodup ∧ (∀ a ∈ l, a < 2) ∧ l.length ≤ 2
theorem axn_inj {a b : Nat} (ha : a < 2) (hb : b < 2) (h : axn a = axn b) : a = b := by
  rcases (by omega : a = 0 ∨ a = 1) with rfl | rfl <;> rcases (by omega : b = 0 ∨ b = 1) with rfl | rfl
  · rfl
  · exact absurd h (by decide)
  · exact absurd h (by decide)
  · rfl
theorem ax_get {l : List Nat} {j : Nat} {z : V} (hz : ((l.map axn).map V.str)[j]? = some z) : ∃ k, l[j]? = some k ∧ z = V.str (axn k) := by
  rw [List.getElem?_map, List.getElem?_map] at hz
  cases h : l[j]? with
  | none => rw [h] at hz; cases hz
  | some k => rw [h] at hz; exact ⟨k, rfl, (Option.some.inj hz).symm⟩
theorem ax_new {l : List Nat} {j k : Nat} (nd : l.Nodup) (l2 : ∀ a ∈ l, a < 2) (h : l[j]? = some k) : ¬ axn k ∈ (l.map axn).take j := by
  intro hm
  rw [← List.map_take] at hm
  obtain ⟨b, hb, e⟩ := List.mem_map.mp hm
  have := axn_inj (l2 b (List.mem_of_mem_take hb)) (l2 k (List.mem_of_getElem? h)) e
  subst this
  obtain ⟨i, hi⟩ := List.getElem?_of_mem hb
  rw [List.getElem?_take] at hi
  split at hi
  · next c =>
    have hj := (List.getElem?_eq_some_iff.mp h).1
    have hi' := (List.getElem?_eq_some_iff.mp hi).1
    have := (List.getElem?_inj hi' nd).mp (hi.trans h.symm)
    omega
  · cases hi
def sp_areaxes (K : PySem.W.Frag) : Sp := fun vs H Q _ => ∃ (v : V) (l : List Nat), vs = [v] ∧ Dp K H v (pAxs l) ∧ AxOk l ∧ ∀ H', Same H H' → Q (.bl true) H'
theorem c_areaxes {K : PySem.W.Frag} {v : V} {l : List Nat} {H : Hp} {Q : VK} {E : XK} (h0 : Dp K H v (pAxs l)) (h1 : AxOk l) (q : ∀ H', Same H H' → Q (.bl true) H') : sp_areaxes K [v] H Q E := ⟨_, _, rfl, h0, h1, q⟩
local macro_rules | `(tactic| tb_rel) => `(tactic| repeat (first
  | with_reducible assumption
  | with_reducible exact Dp.int _
  | with_reducible exact Dp.str _
  | with_reducible exact Dp.bl _
  | with_reducible exact Dp.non
  | (with_reducible apply SqT.of; with_reducible assumption)
  | (with_reducible apply SqL.of; with_reducible assumption)
  | (with_reducible apply up_dp; with_reducible assumption)
  | (with_reducible apply up_sqt; with_reducible assumption)
  | (with_reducible apply up_sql; with_reducible assumption)
  | (with_reducible apply up_get; with_reducible assumption)
  | (with_reducible apply up_pot; with_reducible assumption)
  | with_reducible exact Same.refl _
  | with_reducible exact Bu.refl _ _
  | (with_reducible apply up_same; with_reducible assumption)
  | (with_reducible apply up_bu; with_reducible assumption)
  | (with_reducible apply bu_bu; with_reducible assumption)
  | (with_reducible apply free_of; with_reducible assumption)
  | (with_reducible apply mi_fr; with_reducible assumption; (focus (tb_rel; done)))
  | (with_reducible apply mi_dp; with_reducible assumption)
  | (with_reducible apply mi_sqt; with_reducible assumption)
  | (with_reducible apply mi_sql; with_reducible assumption)
  | (with_reducible apply mi_gett; with_reducible assumption)
  | (with_reducible apply mi_getl; with_reducible assumption)
  | (with_reducible apply mi_pot; with_reducible assumption)
  | (with_reducible apply mi_refl; with_reducible assumption; (focus (with_unfolding_all exact rfl)))
  | (with_reducible apply up_mi; with_reducible assumption)
  | (with_reducible apply mi_mi; with_reducible assumption)
  | (with_reducible apply mi_bu; with_reducible assumption)
  | with_reducible exact num_int _
  | (with_reducible apply rat_of; with_reducible assumption)
  | (with_reducible apply num_rat; (focus (tb_rel; done)))
  | (with_reducible apply up_plan; with_reducible assumption)
  | (with_reducible apply bu_plan; with_reducible assumption; (focus (tb_rel; done)))
  | (with_reducible apply mi_plan; with_reducible assumption; (focus (lcg_src; done)))
  | (with_reducible apply up_rat; with_reducible assumption)
  | (with_reducible apply up_num; with_reducible assumption)
  | (with_reducible apply mi_rat; with_reducible assumption; (focus (lcg_src; done)))
  | (with_reducible apply mi_num; with_reducible assumption; (focus (lcg_src; done)))
  | (with_reducible apply bu_rat; with_reducible assumption; (focus (tb_rel; done)))
  | (with_reducible apply bu_num; with_reducible assumption; (focus (tb_rel; done)))
  | (with_reducible apply bu_gett; with_reducible assumption; (focus (tb_rel; done)))
  | (with_reducible apply bu_geti; with_reducible assumption; (focus (tb_rel; done)))
  | (with_reducible apply bu_get; with_reducible assumption; (focus (tlg_ne; done)))
  | (with_reducible apply bu_sqt; with_reducible assumption; (focus (tb_rel; done)))
  | (with_reducible apply bu_sql; with_reducible assumption; (focus (tlg_ne; done)))
  | (with_reducible apply bu_dp; with_reducible assumption; (focus (tb_rel; done)); (focus (lcg_src; done)))
  | fail "up"))
local macro_rules | `(tactic| tlg_ne) => `(tactic| first
  | with_reducible assumption
  | (with_reducible apply pot_ne; with_reducible assumption; (focus (tb_rel; done)))
  | fail "ne")
local macro_rules | `(tactic| lcg_src) => `(tactic| first
  | with_reducible assumption
  | with_unfolding_all exact rfl
  | with_unfolding_all decide
  | with_unfolding_all exact Nat.ne_of_beq_eq_false rfl
  | (apply_assumption; done)
  | omega
  | (simp; done)
  | (simp; omega)
  | fail "sd")
local macro_rules | `(tactic| lcg_sub) => `(tactic| first
  | (unfold sizeLine; omega)
  | (simp only [List.length_cons, List.length_nil, List.length_append, List.length_map, List.length_replicate, List.length_take, List.length_drop]; unfold sizeLine; omega)
  | (simp; unfold sizeLine; omega)
  | fail "sz")
local macro_rules | `(tactic| nest_cls) => `(tactic| first
  | (tb_rel; done)
  | (with_reducible apply nmI; (focus (tb_rel; done)))
  | (with_reducible apply d_tup; (focus (tb_rel; done)); (focus (lsm_bools; done)))
  | (with_reducible apply d_lst; (focus (tb_rel; done)); (focus (lsm_bools; done)))
  | fail "dp")
local macro_rules | `(tactic| lsm_bools) => `(tactic| repeat (first
  | with_reducible exact DpAll.nil
  | with_reducible assumption
  | (with_reducible apply DpAll.cons; (focus (nest_cls; done)))
  | fail "dpa"))
local macro_rules | `(tactic| none_booked) => `(tactic| first | with_unfolding_all exact rfl | (with_reducible apply atI_nat; with_reducible assumption) | fail "ix")
local macro_rules | `(tactic| walk_at "go") => `(tactic| repeat (first
  | (focus (with_reducible refine go_var (v := ?_) ?_ ?_; rotate_left; (focus (with_unfolding_all exact rfl))))
  | with_reducible refine go_seq ?_
  | with_reducible refine go_cN ?_
  | with_reducible refine go_c ?_
  | with_reducible refine go_op ?_
  | with_reducible refine go_nil ?_
  | with_reducible refine go_cons ?_
  | with_reducible refine go_cb ?_
  | with_reducible refine go_call0 ?_
  | with_reducible refine go_asg ?_
  | (focus (with_reducible refine go_gname (σ' := ?_) ?_ ?_; rotate_left; (focus (simp only [List.set_cons_succ, List.set_cons_zero]; exact rfl))))
  | with_reducible refine go_par ?_
  | (focus (with_reducible refine go_par2 (σ' := ?_) ?_ ?_; rotate_left; (focus (simp only [List.set_cons_succ, List.set_cons_zero]; exact rfl))))
  | with_reducible refine go_ifs ?_
  | with_reducible refine go_test ?_
  | with_reducible refine go_tb ?_
  | with_reducible refine go_asb ?_
  | with_reducible refine go_asi ?_
  | with_reducible refine go_ret ?_
  | with_reducible refine go_retn ?_
  | with_reducible refine go_drop ?_
  | with_reducible refine go_next ?_
  | with_reducible refine go_and ?_
  | with_reducible refine go_or ?_
  | with_reducible refine go_not ?_
  | with_reducible refine go_andv ?_
  | with_reducible refine go_orv ?_
  | with_reducible refine go_notv ?_
  | with_reducible refine go_ife ?_
  | with_reducible refine go_chain ?_
  | with_reducible refine go_if1 ?_
  | with_reducible refine go_if0 ?_
  | with_reducible refine go_ifn1 ?_
  | with_reducible refine go_ifn0 ?_
  | (with_reducible apply go_ift; (focus (first | with_reducible rfl | with_reducible assumption | omega)))
  | (with_reducible apply go_ifnt; (focus (first | with_reducible rfl | with_reducible assumption | omega)))
  | (with_reducible apply go_iff; (focus (first | with_reducible assumption | omega)))
  | (with_reducible apply go_ifnf; (focus (first | with_reducible assumption | omega)))
  | with_reducible refine go_un ?_
  | with_reducible refine go_tup ?_
  | with_reducible refine go_lst ?_
  | (with_reducible apply go_newt; (focus (lcg_sub; done)); intros)
  | (with_reducible apply go_newl; (focus (lcg_sub; done)); intros)
  | with_reducible refine go_meth ?_
  | with_reducible refine go_for ?_
  | with_reducible refine go_lc ?_
  | with_reducible refine go_irng1 ?_
  | with_reducible refine go_irng2 ?_
  | with_reducible refine go_ilist ?_
  | with_reducible refine go_itup ?_
  | with_reducible refine go_izip ?_
  | with_reducible refine go_ienum ?_
  | (with_reducible apply go_rg1; (focus (lcg_src; done)))
  | (with_reducible apply go_rg2; (focus (lcg_src; done)); (focus (lcg_src; done)))
  | (with_reducible apply go_lsr; (focus (tb_rel; done)))
  | (with_reducible apply go_tpr; (focus (tb_rel; done)))
  | (with_reducible apply go_zpr; (focus (tb_rel; done)); (focus (tb_rel; done)))
  | (with_reducible apply go_zprT; (focus (tb_rel; done)); (focus (tb_rel; done)))
  | (with_reducible apply go_enrL; (focus (tb_rel; done)))
  | (with_reducible apply go_enrT; (focus (tb_rel; done)))
  | with_reducible refine go_prop ?_
  | with_reducible refine go_knr0 ?_
  | (with_reducible apply go_knr; (focus (with_unfolding_all exact rfl; done)); (focus (simp only [kSw2, kRev3, kId, List.nil_append, List.cons_append]; exact rfl)))
  | with_reducible refine go_mkn ?_
  | (with_reducible apply go_mkr; (focus (tb_rel; done)); (focus (with_unfolding_all exact rfl; done)))
  | with_reducible refine go_fld ?_
  | (with_reducible apply go_flr; (focus (tb_rel; done)); (focus (with_reducible assumption; done)); (focus (with_reducible assumption; done)); (focus (with_unfolding_all exact rfl; done)))
  | (with_reducible apply go_prr; (focus (tb_rel; done)))
  | (with_reducible apply go_mer; (focus (tb_rel; done)); (focus (with_unfolding_all exact rfl; done)))
  | with_reducible refine go_sfld ?_
  | (with_reducible apply go_sfr; (focus (tb_rel; done)); (focus (with_reducible assumption; done)); (focus (with_reducible assumption; done)); (focus (with_unfolding_all exact Nat.le_of_ble_eq_true rfl; done)); (focus (with_unfolding_all exact rfl; done)); intros)
  | with_reducible refine go_revt ?_
  | with_reducible refine go_make0 ?_
  | (focus (with_reducible refine go_aug (x := ?_) ?_ ?_; rotate_left; (focus (with_unfolding_all exact rfl))))
  | (focus (with_reducible refine go_augk (σ' := ?_) ?_ ?_; rotate_left; (focus (simp only [List.set_cons_succ, List.set_cons_zero]; exact rfl))))
  | with_reducible refine go_min2 ?_
  | with_reducible refine go_int1 ?_
  | with_reducible refine go_max2 ?_
  | with_reducible refine go_intB ?_
  | with_reducible refine go_absN ?_
  | with_reducible refine go_isN ?_
  | with_reducible refine go_notN ?_
  | (with_reducible apply go_rvt; (focus (tb_rel; done)); (focus (simp only [List.reverse_cons, List.reverse_nil, List.nil_append, List.cons_append]; exact rfl)); intros)
  | (with_reducible apply go_reprNm; (focus (tb_rel; done)); (focus (with_reducible assumption; done)))
  | (with_reducible apply go_reprPr; (focus (nest_cls; done)); (focus (lcg_src; done)); (focus (lcg_src; done)))
  | with_reducible refine go_sl ?_
  | with_reducible refine go_part ?_
  | with_reducible refine go_nopart ?_
  | (with_reducible apply go_gtup; (focus (tb_rel; done)); (focus (with_unfolding_all exact rfl; done)))
  | (with_reducible apply go_gunl; (focus (tb_rel; done)); (focus (with_unfolding_all exact rfl; done)))
  | with_reducible refine go_gcons ?_
  | with_reducible refine go_gnil ?_
  | with_reducible refine go_addN ?_
  | with_reducible refine go_ltN ?_
  | with_reducible refine go_leN ?_
  | with_reducible refine go_gtN ?_
  | with_reducible refine go_geN ?_
  | (with_reducible apply go_subN; (focus (omega; done)))
  | with_reducible refine go_rI0 ?_
  | (with_reducible apply go_mulN; (focus (omega; done)))
  | (with_reducible apply go_modN; (focus (omega; done)))
  | (with_reducible apply go_divN; (focus (omega; done)))
  | (with_reducible apply go_powN; (focus (with_unfolding_all decide; done)))
  | with_reducible refine go_rU ?_
  | with_reducible refine go_eqN ?_
  | with_reducible refine go_neN ?_
  | with_reducible refine go_isB ?_
  | with_reducible refine go_notB ?_
  | with_reducible refine go_eqS ?_
  | with_reducible refine go_neS ?_
  | with_reducible refine go_eqB ?_
  | with_reducible refine go_eqI ?_
  | with_reducible refine go_neI ?_
  | (with_reducible apply go_ixt; (focus (tb_rel; done)); (focus (none_booked; done)))
  | (with_reducible apply go_ixl; (focus (tb_rel; done)); (focus (none_booked; done)))
  | (with_reducible apply go_lent; (focus (tb_rel; done)))
  | (with_reducible apply go_lenNm; (focus (tb_rel; done)))
  | (with_reducible apply go_isiNm; (focus (tb_rel; done)))
  | (with_reducible apply go_lenl; (focus (tb_rel; done)))
  | (with_reducible apply go_catA; (focus (tb_rel; done)); (focus (tb_rel; done)); (focus (lcg_sub; done)); intros)
  | (with_reducible apply go_slaT; (focus (tb_rel; done)); intros)
  | (with_reducible apply go_slaD; (focus (tb_rel; done)); intros)
  | (with_reducible apply go_rep; (focus (tb_rel; done)); (focus (lcg_src; done)); intros)
  | (with_reducible apply go_tupofl; (focus (tb_rel; done)); intros)
  | (with_reducible apply go_sllT; (focus (tb_rel; done)); intros)
  | (with_reducible apply go_sllD; (focus (tb_rel; done)); intros)
  | (with_reducible apply go_cat; (focus (tb_rel; done)); (focus (tb_rel; done)); (focus (lcg_sub; done)); intros)
  | (with_reducible apply go_eqP; with_reducible assumption; (focus (tb_rel; done)); (focus (tb_rel; done)))
  | (with_reducible apply go_neP; with_reducible assumption; (focus (tb_rel; done)); (focus (tb_rel; done)))
  | (with_reducible apply go_mkrat; with_reducible assumption; with_reducible assumption; intros)
  | (with_reducible apply go_mkrat1; intros)
  | (with_reducible apply go_merR; (focus (tb_rel; done)); (focus decide); (focus decide))
  | (with_reducible apply go_prR; (focus (tb_rel; done)))
  | (with_reducible apply go_mep; (focus (tb_rel; done)); (focus decide); (focus decide); (focus decide))
  | (with_reducible apply c_areaxes; (focus (nest_cls; done)); (focus (lcg_src; done)); intros)
  | (with_reducible apply c_asratio; (focus (tb_rel; done)); intros)
  | (with_reducible apply c_islen; (focus (tb_rel; done)); (focus (lcg_src; done)); intros)
  | (with_reducible apply c_islist; (focus (lcg_src; done)); (focus (lcg_src; done)); (focus (lcg_src; done)); intros)
  | (with_reducible apply c_isnum; (focus (tb_rel; done)); intros)
  | (with_reducible apply c_rsign; (focus (tb_rel; done)); intros)
  | (with_reducible apply c_wantlen; (focus (tb_rel; done)); (focus (lcg_src; done)); intros)
  | fail "go"))
theorem ok_islen {f : Addr} {fd : FuncData} (F : Df K "is_length" "is_length" s_islen [] f fd) (GR : RtG K mg CR) (cNum : Ca P w K mg base 2 "is_number" (sp_isnum CR) []) (cAs : Ca P w K mg base 4 "as_ratio" (sp_asratio CR) []) (cSgn : Pr P w K mg base 1 CR "sign" (sp_rsign CR)) : FnOk P w K mg base CX0 5 f fd ["value"] (sp_islen CR) := by
  refine dfOk F sc_islen (fun vs H Q E h => ?_) (fun cdv A outer s H vs Q E hr h => ?_)
  · obtain ⟨v, r, rfl, _⟩ := h
    rfl
  · obtain ⟨v, r, rfl, hv, r0, q⟩ := h
    have cl := GR.I.cl
    refine ⟨_, (pss_one (ps_ret (pe_and (pe_ca cNum hr (by decide) (by rfl) (pa_cons (pv 0) pa_nil)) (pe_one (pe_cmpR op_gt (pe_pr cSgn hr (by decide) (pe_ca cAs hr (by decide) (by rfl) (pa_cons (pv 0) pa_nil))) pe_int (nomark _)))))), ?_⟩
    refine go_start (σ := [some _]) rfl ?_
    walk_at "go"
    rename_i b dy H1 s1 eb
    have e : decide (((0 : Nat) : Int) < r.num.sign) = true := decide_eq_true (by rw [Int.sign_eq_one_of_pos (num_pos r0)]; decide)
    rw [e]
    exact q _ (by tb_rel)
theorem ok_wantlen {f : Addr} {fd : FuncData} (F : Df K "want_length" "want_length" s_wantlen [] f fd) (cIl : Ca P w K mg base 5 "is_length" (sp_islen CR) []) : FnOk P w K mg base CX0 6 f fd ["value"] (sp_wantlen CR) := by
  refine dfOk F sc_wantlen (fun vs H Q E h => ?_) (fun cdv A outer s H vs Q E hr h => ?_)
  · obtain ⟨v, r, rfl, _⟩ := h
    rfl
  · obtain ⟨v, r, rfl, hv, r0, q⟩ := h
    refine ⟨_, (pss_one (ps_if (pt_not (pt_val (pe_ca cIl hr (by decide) (by rfl) (pa_cons (pv 0) pa_nil))))
  pss_never
  pss_nil)), ?_⟩
    refine go_start (σ := [some _]) rfl ?_
    walk_at "go"
    exact q _ (by tb_rel)
theorem ok_areaxes {f : Addr} {fd : FuncData} (F : Df K "are_axes" "are_axes" s_areaxes [] f fd) (B : Blt mg) (cL : Ca P w K mg base 1 "is_list" (sp_islist K) []) (cA : Ca P w K mg base 1 "is_axis" sp_isaxis []) : FnOk P w K mg base CX0 2 f fd ["value"] (sp_areaxes K) := by
  refine dfOk F sc_areaxes (fun vs H Q E h => ?_) (fun cdv A outer s H vs Q E hr h => ?_)
  · obtain ⟨v, l, rfl, _⟩ := h
    rfl
  · obtain ⟨v, l, rfl, hv, ⟨nd, l2, l3⟩, q⟩ := h
    obtain ⟨a, xs, rfl, hs, ha⟩ := hv.lstE
    obtain rfl := DpAll.strsE ha
    have ll : ((l.map axn).map V.str).length ≤ 100000 := by
      rw [List.length_map, List.length_map]
      omega
    refine ⟨_, (pss_cons (ps_if (PW.pt (pw_or (pt_not (pt_val (pe_ca cL hr (by decide) (by rfl) (pa_cons (pv 0) pa_nil)))) (pw_or1 (pt_not (pt_val (pe_callB (cr_all' rfl) (by rfl) B.all bt_all (pa_cons (pe_lc (own := [("axis", 1)]) (by rfl) sc_areaxes.nd (pi_list' (pv 0)) (blkOk_by (own := [("axis", 1)]) (N := ["value", "axis", "position"]) (sc := defScope s_areaxes) (by decide +kernel)) (fun _ _ _ _ _ => (pg_name (i := 1) sc_areaxes.nd rfl (Or.inl rfl))) (fun _ _ _ _ _ => pts_nil) (fun _ _ _ _ _ => (pe_ca cA hr (by decide) (by rfl) (pa_cons (pv 1) pa_nil)))) pa_nil)))))))
  (pss_one (ps_ret pe_bl))
  pss_nil)
  (pss_one (ps_ret (pe_callB (cr_all' rfl) (by rfl) B.all bt_all (pa_cons (pe_lc (own := [("position", 2), ("axis", 1)]) (by rfl) sc_areaxes.nd (pi_enumA' (by rfl) B.enumerate (pa_cons (pv 0) pa_nil)) (blkOk_by (own := [("position", 2), ("axis", 1)]) (N := ["value", "axis", "position"]) (sc := defScope s_areaxes) (by decide +kernel)) (fun _ _ _ _ _ => (pg_tup' 2 (pgs_cons (pg_name (i := 2) sc_areaxes.nd rfl (Or.inl rfl)) (pgs_cons (pg_name (i := 1) sc_areaxes.nd rfl (Or.inl rfl)) pgs_nil)))) (fun _ _ _ _ _ => pts_nil) (fun _ _ _ _ _ => (pe_cmpR op_notIn_seq' (pv 1) (pe_slice sl_list' (pv 0) po_none (po_some (pv 2))) (by rfl)))) pa_nil))))), ?_⟩
    refine go_start (σ := [some _, none, none]) rfl ?_
    walk_at "go"
    refine islist_seq (b := true) hs ?_
    intro H1 s1
    walk_at "go"
    refine lcList (K := K) (fun _ => .bool true) (by tb_rel) ll (fun _ _ => rfl) (fun _ => rfl) (fun j z H6 Q6 hj hz s6 hq => ?_) (fun D2 H6 ys2 nD2 s6 eD2 hD2 => ?_)
    · obtain ⟨k, hk, rfl⟩ := ax_get hz
      walk_at "go"
      exact ⟨k, rfl, hq _ _ (by tb_rel) (.bl true)⟩
    · have e2 := trues hD2
      subst e2
      walk_at "go"
      refine go_all (SqL.of eD2) ?_
      rw [trues_all]
      walk_at "go"
      refine lcEnum (K := K) (b := true) (fun _ => .bool true) (show SqL K _ _ _ by tb_rel) (fun _ z => (show SqL K _ _ _ by tb_rel)) ll (fun _ _ => rfl) (fun _ _ => rfl) (fun j z H7 Q7 hj hz s7 hq => ?_) (fun D3 H7 ys3 nD3 s7 eD3 hD3 => ?_)
      · obtain ⟨k, hk, rfl⟩ := ax_get hz
        walk_at "go"
        rename_i p7 H8 n8 s8 e8
        rw [← List.map_take] at e8
        refine ⟨p7, _, rfl, .inl (SqL.of e8), rfl, Mv.flat_strs _, ?_⟩
        rw [in_strs, decide_eq_false (ax_new nd l2 hk)]
        exact hq _ _ (by tb_rel) (.bl true)
      · have e3 := trues hD3
        subst e3
        walk_at "go"
        refine go_all (SqL.of eD3) ?_
        rw [trues_all]
        exact q _ (by tb_rel)
end
end T
set_option Elab.async false
set_option maxRecDepth 100000
set_option maxHeartbeats 4000000
namespace T
open PySem L2 Mv
abbrev s_minit : Stmt := inClass (top 54) 0
theorem sc_minit : FnScope ["self", "plan", "east", "north", "closed", "axis"] ["self", "plan", "east", "north", "closed"] (defScope s_minit) := ⟨rfl, rfl, rfl, by decide +kernel, rfl, by decide +kernel, by decide +kernel⟩
abbrev s_mplan : Stmt := inClass (top 54) 1
theorem sc_mplan : FnScope ["self"] ["self"] (defScope s_mplan) := ⟨rfl, rfl, rfl, by decide +kernel, rfl, by decide +kernel, by decide +kernel⟩
abbrev s_msides : Stmt := inClass (top 54) 7
theorem sc_msides : FnScope ["self", "f", "columns", "rows"] ["self", "f"] (defScope s_msides) := ⟨rfl, rfl, rfl, by decide +kernel, rfl, by decide +kernel, by decide +kernel⟩
abbrev s_wantmap : Stmt := top 55
theorem sc_wantmap : FnScope ["value"] ["value"] (defScope s_wantmap) := ⟨rfl, rfl, rfl, by decide +kernel, rfl, by decide +kernel, by decide +kernel⟩
/-- what stands of the class Map -/
structure MpG (K : PySem.W.Frag) (mg : Str → Option Value) (CM : Addr) : Prop where
  I : ClsI K CM
  mgC : mg "Map" = some (.ref CM)
  nP : NoAttr K CM "own_plan"
  nL : NoAttr K CM "own_lengths"
  nC : NoAttr K CM "own_closed"
section
variable {P : Program} {w : World} {K : PySem.W.Frag} {mg : Str → Option Value} {base : Heap} {C AX CR CM : Addr}
def mpF (p l c : V) : List (Str × V) := [("own_plan", p), ("own_lengths", l), ("own_closed", c)]
/-- a map: its plan, its lengths -/
structure MapAt (K : PySem.W.Frag) (C CR CM : Addr) (H : Hp) (v : V) (rs : List (List Pm.Cut)) (x y : Rat) : Prop where
  ex : ∃ a dx p t c b1 b2, v = .ref a ∧ H a = some (.ins CM dx (mpF p (.ref t) c)) ∧ PlanAt K C H p rs ∧ H t = some (.tup [b1, b2]) ∧ RatAt CR H b1 x ∧ RatAt CR H b2 y
theorem up_map {H H' : Hp} {v : V} {rs : List (List Pm.Cut)} {x y : Rat} (s : Same H H') (h : MapAt K C CR CM H v rs x y) : MapAt K C CR CM H' v rs x y := by
  obtain ⟨a, dx, p, t, c, b1, b2, e, ea, hp, ht, h1, h2⟩ := h.ex
  exact ⟨a, dx, p, t, c, b1, b2, e, s _ _ ea, hp.same s, s _ _ ht, up_rat s h1, up_rat s h2⟩
theorem rat_kept {H H' : Hp} {x dx D : Addr} {fs : List (Str × V)} {v : V} {q : Rat} (hx : H x = some (.ins D dx fs)) (hf : ∀ q, fs ≠ rtF q) (b : Bu x H H') (h : RatAt CR H v q) : RatAt CR H' v q := by
  obtain ⟨a, da, e, ea⟩ := h
  refine ⟨a, da, e, b a _ (fun z => ?_) ea⟩
  rw [z, hx] at ea
  cases ea
  exact hf q rfl
def sp_minit (K : PySem.W.Frag) (C CR CM : Addr) : Sp := fun vs H Q _ => ∃ (x dx : Addr) (p e n c : V) (rs : List (List Pm.Cut)) (l : List Nat) (q r : Rat), vs = [.ref x, p, e, n, c] ∧ H x = some (.ins CM dx []) ∧ PlanAt K C H p rs ∧ NumAt CR H e q ∧ 0 < q ∧ NumAt CR H n r ∧ 0 < r ∧ Dp K H c (pAxs l) ∧ AxOk l ∧
  ∀ H', Bu x H H' → MapAt K C CR CM H' (.ref x) rs q r → Q .non H'
theorem c_minit {K : PySem.W.Frag} {C CR CM : Addr} {x dx : Addr} {p e n c : V} {rs : List (List Pm.Cut)} {l : List Nat} {q r : Rat} {H : Hp} {Q : VK} {E : XK} (h0 : H x = some (.ins CM dx [])) (h1 : PlanAt K C H p rs) (h2 : NumAt CR H e q) (h3 : 0 < q) (h4 : NumAt CR H n r) (h5 : 0 < r) (h6 : Dp K H c (pAxs l)) (h7 : AxOk l) (q : ∀ H', Bu x H H' → MapAt K C CR CM H' (.ref x) rs q r → Q .non H') : sp_minit K C CR CM [.ref x, p, e, n, c] H Q E := ⟨_, _, _, _, _, _, _, _, _, _, rfl, h0, h1, h2, h3, h4, h5, h6, h7, q⟩
def sp_mplan (K : PySem.W.Frag) (C CR CM : Addr) : Sp := fun vs H Q _ => ∃ (v : V) (rs : List (List Pm.Cut)) (q r : Rat), vs = [v] ∧ MapAt K C CR CM H v rs q r ∧ ∀ p, PlanAt K C H p rs → Q p H
theorem c_mplan {K : PySem.W.Frag} {C CR CM : Addr} {v : V} {rs : List (List Pm.Cut)} {q r : Rat} {H : Hp} {Q : VK} {E : XK} (h0 : MapAt K C CR CM H v rs q r) (q : ∀ p, PlanAt K C H p rs → Q p H) : sp_mplan K C CR CM [v] H Q E := ⟨_, _, _, _, rfl, h0, q⟩
def sp_wantmap (K : PySem.W.Frag) (C CR CM : Addr) : Sp := fun vs H Q _ => ∃ (v : V) (rs : List (List Pm.Cut)) (q r : Rat), vs = [v] ∧ MapAt K C CR CM H v rs q r ∧ Q .non H
theorem c_wantmap {K : PySem.W.Frag} {C CR CM : Addr} {v : V} {rs : List (List Pm.Cut)} {q r : Rat} {H : Hp} {Q : VK} {E : XK} (h0 : MapAt K C CR CM H v rs q r) (q : Q .non H) : sp_wantmap K C CR CM [v] H Q E := ⟨_, _, _, _, rfl, h0, q⟩
theorem cnt_ne {rs : List (List Pm.Cut)} (h : Pm.RdsOk rs) (a f : Nat) : (((Pm.cnt rs a f : Nat) : Int) : Rat) ≠ 0 := by
  have := h.cnt_pos a f
  intro z
  rw [show (0 : Rat) = ((0 : Int) : Rat) from rfl, Rat.intCast_inj] at z
  omega
def sp_msides (K : PySem.W.Frag) (C CR CM : Addr) : Sp := fun vs H Q _ => ∃ (v : V) (f : Nat) (rs : List (List Pm.Cut)) (q r : Rat), vs = [v, .int f] ∧ MapAt K C CR CM H v rs q r ∧ f ≤ 1000 ∧ SzQ q ∧ SzQ r ∧ SzQ (((Pm.cnt rs 0 f : Nat) : Int) : Rat) ∧ SzQ (((Pm.cnt rs 1 f : Nat) : Int) : Rat) ∧
  ∀ t b1 b2 H', Same H H' → H' t = some (.tup [b1, b2]) → RatAt CR H' b1 (q / (((Pm.cnt rs 0 f : Nat) : Int) : Rat)) → RatAt CR H' b2 (r / (((Pm.cnt rs 1 f : Nat) : Int) : Rat)) → Q (.ref t) H'
theorem c_msides {K : PySem.W.Frag} {C CR CM : Addr} {v : V} {f : Nat} {rs : List (List Pm.Cut)} {q r : Rat} {H : Hp} {Q : VK} {E : XK} (h0 : MapAt K C CR CM H v rs q r) (h1 : f ≤ 1000) (h2 : SzQ q) (h3 : SzQ r) (h4 : SzQ (((Pm.cnt rs 0 f : Nat) : Int) : Rat)) (h5 : SzQ (((Pm.cnt rs 1 f : Nat) : Int) : Rat)) (q : ∀ t b1 b2 H', Same H H' → H' t = some (.tup [b1, b2]) → RatAt CR H' b1 (q / (((Pm.cnt rs 0 f : Nat) : Int) : Rat)) → RatAt CR H' b2 (r / (((Pm.cnt rs 1 f : Nat) : Int) : Rat)) → Q (.ref t) H') : sp_msides K C CR CM [v, .int f] H Q E := ⟨_, _, _, _, _, rfl, h0, h1, h2, h3, h4, h5, q⟩
local macro_rules | `(tactic| tb_rel) => `(tactic| repeat (first
  | with_reducible assumption
  | with_reducible exact Dp.int _
  | with_reducible exact Dp.str _
  | with_reducible exact Dp.bl _
  | with_reducible exact Dp.non
  | (with_reducible apply SqT.of; with_reducible assumption)
  | (with_reducible apply SqL.of; with_reducible assumption)
  | (with_reducible apply up_dp; with_reducible assumption)
  | (with_reducible apply up_sqt; with_reducible assumption)
  | (with_reducible apply up_sql; with_reducible assumption)
  | (with_reducible apply up_get; with_reducible assumption)
  | (with_reducible apply up_pot; with_reducible assumption)
  | with_reducible exact Same.refl _
  | with_reducible exact Bu.refl _ _
  | (with_reducible apply up_same; with_reducible assumption)
  | (with_reducible apply up_bu; with_reducible assumption)
  | (with_reducible apply bu_bu; with_reducible assumption)
  | (with_reducible apply free_of; with_reducible assumption)
  | (with_reducible apply mi_fr; with_reducible assumption; (focus (tb_rel; done)))
  | (with_reducible apply mi_dp; with_reducible assumption)
  | (with_reducible apply mi_sqt; with_reducible assumption)
  | (with_reducible apply mi_sql; with_reducible assumption)
  | (with_reducible apply mi_gett; with_reducible assumption)
  | (with_reducible apply mi_getl; with_reducible assumption)
  | (with_reducible apply mi_pot; with_reducible assumption)
  | (with_reducible apply mi_refl; with_reducible assumption; (focus (with_unfolding_all exact rfl)))
  | (with_reducible apply up_mi; with_reducible assumption)
  | (with_reducible apply mi_mi; with_reducible assumption)
  | (with_reducible apply mi_bu; with_reducible assumption)
  | with_reducible exact num_int _
  | (with_reducible apply rat_of; with_reducible assumption)
  | (with_reducible apply num_rat; (focus (tb_rel; done)))
  | (with_reducible apply up_plan; with_reducible assumption)
  | (with_reducible apply bu_plan; with_reducible assumption; (focus (tb_rel; done)))
  | (with_reducible apply mi_plan; with_reducible assumption; (focus (lcg_src; done)))
  | (with_reducible apply up_rat; with_reducible assumption)
  | (with_reducible apply up_num; with_reducible assumption)
  | (with_reducible apply mi_rat; with_reducible assumption; (focus (lcg_src; done)))
  | (with_reducible apply mi_num; with_reducible assumption; (focus (lcg_src; done)))
  | (with_reducible apply bu_rat; with_reducible assumption; (focus (tb_rel; done)))
  | (with_reducible apply bu_num; with_reducible assumption; (focus (tb_rel; done)))
  | (with_reducible apply up_map; with_reducible assumption)
  | (with_reducible apply bu_gett; with_reducible assumption; (focus (tb_rel; done)))
  | (with_reducible apply bu_geti; with_reducible assumption; (focus (tb_rel; done)))
  | (with_reducible apply bu_get; with_reducible assumption; (focus (tlg_ne; done)))
  | (with_reducible apply bu_sqt; with_reducible assumption; (focus (tb_rel; done)))
  | (with_reducible apply bu_sql; with_reducible assumption; (focus (tlg_ne; done)))
  | (with_reducible apply bu_dp; with_reducible assumption; (focus (tb_rel; done)); (focus (lcg_src; done)))
  | fail "up"))
local macro_rules | `(tactic| tlg_ne) => `(tactic| first
  | with_reducible assumption
  | (with_reducible apply pot_ne; with_reducible assumption; (focus (tb_rel; done)))
  | fail "ne")
local macro_rules | `(tactic| lcg_src) => `(tactic| first
  | with_reducible assumption
  | with_unfolding_all exact rfl
  | with_unfolding_all decide
  | with_unfolding_all exact Nat.ne_of_beq_eq_false rfl
  | (apply_assumption; done)
  | omega
  | (simp; done)
  | (simp; omega)
  | fail "sd")
local macro_rules | `(tactic| lcg_sub) => `(tactic| first
  | (unfold sizeLine; omega)
  | (simp only [List.length_cons, List.length_nil, List.length_append, List.length_map, List.length_replicate, List.length_take, List.length_drop]; unfold sizeLine; omega)
  | (simp; unfold sizeLine; omega)
  | fail "sz")
local macro_rules | `(tactic| nest_cls) => `(tactic| first
  | (tb_rel; done)
  | (with_reducible apply nmI; (focus (tb_rel; done)))
  | (with_reducible apply d_tup; (focus (tb_rel; done)); (focus (lsm_bools; done)))
  | (with_reducible apply d_lst; (focus (tb_rel; done)); (focus (lsm_bools; done)))
  | fail "dp")
local macro_rules | `(tactic| lsm_bools) => `(tactic| repeat (first
  | with_reducible exact DpAll.nil
  | with_reducible assumption
  | (with_reducible apply DpAll.cons; (focus (nest_cls; done)))
  | fail "dpa"))
local macro_rules | `(tactic| none_booked) => `(tactic| first | with_unfolding_all exact rfl | (with_reducible apply atI_nat; with_reducible assumption) | fail "ix")
local macro_rules | `(tactic| walk_at "go") => `(tactic| repeat (first
  | (focus (with_reducible refine go_var (v := ?_) ?_ ?_; rotate_left; (focus (with_unfolding_all exact rfl))))
  | with_reducible refine go_seq ?_
  | with_reducible refine go_cN ?_
  | with_reducible refine go_c ?_
  | with_reducible refine go_op ?_
  | with_reducible refine go_nil ?_
  | with_reducible refine go_cons ?_
  | with_reducible refine go_cb ?_
  | with_reducible refine go_call0 ?_
  | with_reducible refine go_asg ?_
  | (focus (with_reducible refine go_gname (σ' := ?_) ?_ ?_; rotate_left; (focus (simp only [List.set_cons_succ, List.set_cons_zero]; exact rfl))))
  | with_reducible refine go_par ?_
  | (focus (with_reducible refine go_par2 (σ' := ?_) ?_ ?_; rotate_left; (focus (simp only [List.set_cons_succ, List.set_cons_zero]; exact rfl))))
  | with_reducible refine go_ifs ?_
  | with_reducible refine go_test ?_
  | with_reducible refine go_tb ?_
  | with_reducible refine go_asb ?_
  | with_reducible refine go_asi ?_
  | with_reducible refine go_ret ?_
  | with_reducible refine go_retn ?_
  | with_reducible refine go_drop ?_
  | with_reducible refine go_next ?_
  | with_reducible refine go_and ?_
  | with_reducible refine go_or ?_
  | with_reducible refine go_not ?_
  | with_reducible refine go_andv ?_
  | with_reducible refine go_orv ?_
  | with_reducible refine go_notv ?_
  | with_reducible refine go_ife ?_
  | with_reducible refine go_chain ?_
  | with_reducible refine go_if1 ?_
  | with_reducible refine go_if0 ?_
  | with_reducible refine go_ifn1 ?_
  | with_reducible refine go_ifn0 ?_
  | (with_reducible apply go_ift; (focus (first | with_reducible rfl | with_reducible assumption | omega)))
  | (with_reducible apply go_ifnt; (focus (first | with_reducible rfl | with_reducible assumption | omega)))
  | (with_reducible apply go_iff; (focus (first | with_reducible assumption | omega)))
  | (with_reducible apply go_ifnf; (focus (first | with_reducible assumption | omega)))
  | with_reducible refine go_un ?_
  | with_reducible refine go_tup ?_
  | with_reducible refine go_lst ?_
  | (with_reducible apply go_newt; (focus (lcg_sub; done)); intros)
  | (with_reducible apply go_newl; (focus (lcg_sub; done)); intros)
  | with_reducible refine go_meth ?_
  | with_reducible refine go_for ?_
  | with_reducible refine go_lc ?_
  | with_reducible refine go_irng1 ?_
  | with_reducible refine go_irng2 ?_
  | with_reducible refine go_ilist ?_
  | with_reducible refine go_itup ?_
  | with_reducible refine go_izip ?_
  | with_reducible refine go_ienum ?_
  | (with_reducible apply go_rg1; (focus (lcg_src; done)))
  | (with_reducible apply go_rg2; (focus (lcg_src; done)); (focus (lcg_src; done)))
  | (with_reducible apply go_lsr; (focus (tb_rel; done)))
  | (with_reducible apply go_tpr; (focus (tb_rel; done)))
  | (with_reducible apply go_zpr; (focus (tb_rel; done)); (focus (tb_rel; done)))
  | (with_reducible apply go_zprT; (focus (tb_rel; done)); (focus (tb_rel; done)))
  | (with_reducible apply go_enrL; (focus (tb_rel; done)))
  | (with_reducible apply go_enrT; (focus (tb_rel; done)))
  | with_reducible refine go_prop ?_
  | with_reducible refine go_knr0 ?_
  | (with_reducible apply go_knr; (focus (with_unfolding_all exact rfl; done)); (focus (simp only [kSw2, kRev3, kId, List.nil_append, List.cons_append]; exact rfl)))
  | with_reducible refine go_mkn ?_
  | (with_reducible apply go_mkr; (focus (tb_rel; done)); (focus (with_unfolding_all exact rfl; done)))
  | with_reducible refine go_fld ?_
  | (with_reducible apply go_flr; (focus (tb_rel; done)); (focus (with_reducible assumption; done)); (focus (with_reducible assumption; done)); (focus (with_unfolding_all exact rfl; done)))
  | (with_reducible apply go_prr; (focus (tb_rel; done)))
  | (with_reducible apply go_mer; (focus (tb_rel; done)); (focus (with_unfolding_all exact rfl; done)))
  | with_reducible refine go_sfld ?_
  | (with_reducible apply go_sfr; (focus (tb_rel; done)); (focus (with_reducible assumption; done)); (focus (with_reducible assumption; done)); (focus (with_unfolding_all exact Nat.le_of_ble_eq_true rfl; done)); (focus (with_unfolding_all exact rfl; done)); intros)
  | with_reducible refine go_revt ?_
  | with_reducible refine go_make0 ?_
  | (focus (with_reducible refine go_aug (x := ?_) ?_ ?_; rotate_left; (focus (with_unfolding_all exact rfl))))
  | (focus (with_reducible refine go_augk (σ' := ?_) ?_ ?_; rotate_left; (focus (simp only [List.set_cons_succ, List.set_cons_zero]; exact rfl))))
  | with_reducible refine go_min2 ?_
  | with_reducible refine go_int1 ?_
  | with_reducible refine go_max2 ?_
  | with_reducible refine go_intB ?_
  | with_reducible refine go_absN ?_
  | with_reducible refine go_isN ?_
  | with_reducible refine go_notN ?_
  | (with_reducible apply go_rvt; (focus (tb_rel; done)); (focus (simp only [List.reverse_cons, List.reverse_nil, List.nil_append, List.cons_append]; exact rfl)); intros)
  | (with_reducible apply go_reprNm; (focus (tb_rel; done)); (focus (with_reducible assumption; done)))
  | (with_reducible apply go_reprPr; (focus (nest_cls; done)); (focus (lcg_src; done)); (focus (lcg_src; done)))
  | with_reducible refine go_sl ?_
  | with_reducible refine go_part ?_
  | with_reducible refine go_nopart ?_
  | (with_reducible apply go_gtup; (focus (tb_rel; done)); (focus (with_unfolding_all exact rfl; done)))
  | (with_reducible apply go_gunl; (focus (tb_rel; done)); (focus (with_unfolding_all exact rfl; done)))
  | with_reducible refine go_gcons ?_
  | with_reducible refine go_gnil ?_
  | with_reducible refine go_addN ?_
  | with_reducible refine go_ltN ?_
  | with_reducible refine go_leN ?_
  | with_reducible refine go_gtN ?_
  | with_reducible refine go_geN ?_
  | (with_reducible apply go_subN; (focus (omega; done)))
  | with_reducible refine go_rI0 ?_
  | (with_reducible apply go_mulN; (focus (omega; done)))
  | (with_reducible apply go_modN; (focus (omega; done)))
  | (with_reducible apply go_divN; (focus (omega; done)))
  | (with_reducible apply go_powN; (focus (with_unfolding_all decide; done)))
  | with_reducible refine go_rU ?_
  | with_reducible refine go_eqN ?_
  | with_reducible refine go_neN ?_
  | with_reducible refine go_isB ?_
  | with_reducible refine go_notB ?_
  | with_reducible refine go_eqS ?_
  | with_reducible refine go_neS ?_
  | with_reducible refine go_eqB ?_
  | with_reducible refine go_eqI ?_
  | with_reducible refine go_neI ?_
  | (with_reducible apply go_ixt; (focus (tb_rel; done)); (focus (none_booked; done)))
  | (with_reducible apply go_ixl; (focus (tb_rel; done)); (focus (none_booked; done)))
  | (with_reducible apply go_lent; (focus (tb_rel; done)))
  | (with_reducible apply go_lenNm; (focus (tb_rel; done)))
  | (with_reducible apply go_isiNm; (focus (tb_rel; done)))
  | (with_reducible apply go_lenl; (focus (tb_rel; done)))
  | (with_reducible apply go_catA; (focus (tb_rel; done)); (focus (tb_rel; done)); (focus (lcg_sub; done)); intros)
  | (with_reducible apply go_slaT; (focus (tb_rel; done)); intros)
  | (with_reducible apply go_slaD; (focus (tb_rel; done)); intros)
  | (with_reducible apply go_rep; (focus (tb_rel; done)); (focus (lcg_src; done)); intros)
  | (with_reducible apply go_tupofl; (focus (tb_rel; done)); intros)
  | (with_reducible apply go_sllT; (focus (tb_rel; done)); intros)
  | (with_reducible apply go_sllD; (focus (tb_rel; done)); intros)
  | (with_reducible apply go_cat; (focus (tb_rel; done)); (focus (tb_rel; done)); (focus (lcg_sub; done)); intros)
  | (with_reducible apply go_eqP; with_reducible assumption; (focus (tb_rel; done)); (focus (tb_rel; done)))
  | (with_reducible apply go_neP; with_reducible assumption; (focus (tb_rel; done)); (focus (tb_rel; done)))
  | (with_reducible apply go_mkrat; with_reducible assumption; with_reducible assumption; intros)
  | (with_reducible apply go_mkrat1; intros)
  | (with_reducible apply go_merR; (focus (tb_rel; done)); (focus decide); (focus decide))
  | (with_reducible apply go_prR; (focus (tb_rel; done)))
  | (with_reducible apply go_mep; (focus (tb_rel; done)); (focus decide); (focus decide); (focus decide))
  | (with_reducible apply c_areaxes; (focus (nest_cls; done)); (focus (lcg_src; done)); intros)
  | (with_reducible apply c_asratio; (focus (tb_rel; done)); intros)
  | (with_reducible apply c_minit; (focus (tb_rel; done)); (focus (tb_rel; done)); (focus (tb_rel; done)); (focus (lcg_src; done)); (focus (tb_rel; done)); (focus (lcg_src; done)); (focus (nest_cls; done)); (focus (lcg_src; done)); intros)
  | (with_reducible apply c_mplan; (focus (tb_rel; done)); intros)
  | (with_reducible apply c_msides; (focus (tb_rel; done)); (focus (lcg_src; done)); (focus (lcg_src; done)); (focus (lcg_src; done)); (focus (lcg_src; done)); (focus (lcg_src; done)); intros)
  | (with_reducible apply c_pcounts; (focus (tb_rel; done)); (focus (lcg_src; done)); intros)
  | (with_reducible apply c_rover; (focus (tb_rel; done)); (focus (tb_rel; done)); (focus (lcg_src; done)); (focus (lcg_src; done)); (focus (lcg_src; done)); intros)
  | (with_reducible apply c_wantfine; (focus (lcg_src; done)); intros)
  | (with_reducible apply c_wantlen; (focus (tb_rel; done)); (focus (lcg_src; done)); intros)
  | (with_reducible apply c_wantmap; (focus (tb_rel; done)); intros)
  | (with_reducible apply c_wantplan; (focus (tb_rel; done)); intros)
  | fail "go"))
theorem ok_minit {f : Addr} {fd : FuncData} (F : Df K "__init__" "Map.__init__" s_minit [] f fd) (B : Blt mg) (G : PlG K mg C AX) (GR : RtG K mg CR) (GM : MpG K mg CM) (cWpl : Ca P w K mg base 1 "want_plan" (sp_wantplan K C) []) (cWl : Ca P w K mg base 6 "want_length" (sp_wantlen CR) []) (cAx : Ca P w K mg base 2 "are_axes" (sp_areaxes K) []) (cAs : Ca P w K mg base 4 "as_ratio" (sp_asratio CR) []) : FnOk P w K mg base CX0 7 f fd ["self", "plan", "east", "north", "closed"] (sp_minit K C CR CM) := by
  refine dfOk F sc_minit (fun vs H Q E h => ?_) (fun cdv A outer s H vs Q E hr h => ?_)
  · obtain ⟨x, dx, p, e, n, c, rs, l, q, r, rfl, _⟩ := h
    rfl
  · obtain ⟨x, dx, p, e, n, c, rs, l, q, r, rfl, ex, hp, he, q0, hn, r0, hc, ax, k⟩ := h
    have cl := GM.I.cl
    have nP := GM.nP
    have nL := GM.nL
    have nC := GM.nC
    refine ⟨_, (pss_cons (ps_expr (pe_ca cWpl hr (by decide) (by rfl) (pa_cons (pv 1) pa_nil)))
  (pss_cons (ps_expr (pe_ca cWl hr (by decide) (by rfl) (pa_cons (pv 2) pa_nil)))
  (pss_cons (ps_expr (pe_ca cWl hr (by decide) (by rfl) (pa_cons (pv 3) pa_nil)))
  (pss_cons (ps_if (pt_not (pt_val (pe_ca cAx hr (by decide) (by rfl) (pa_cons (pv 4) pa_nil))))
  pss_never
  pss_nil)
  (pss_cons (ps_fld' (pv 0) (pv 1) rfl)
  (pss_cons (ps_fld' (pv 0) (pe_tup (pa_cons (pe_ca cAs hr (by decide) (by rfl) (pa_cons (pv 2) pa_nil)) (pa_cons (pe_ca cAs hr (by decide) (by rfl) (pa_cons (pv 3) pa_nil)) pa_nil))) rfl)
  (pss_one (ps_fld' (pv 0) (pe_callTy call_tuple_of' (by rfl) B.tuple bt_tuple (pa_cons (pe_lc (own := [("axis", 5)]) (by rfl) sc_minit.nd (pi_tup' (pe_glob (v := .ref AX) (by rfl) G.axes rfl)) (blkOk_by (own := [("axis", 5)]) (N := ["self", "plan", "east", "north", "closed", "axis"]) (sc := defScope s_minit) (by decide +kernel)) (fun _ _ _ _ _ => (pg_name (i := 5) sc_minit.nd rfl (Or.inl rfl))) (fun _ _ _ _ _ => (pts_one (pt_cmpR op_in_seq' (pv 5) (pv 4) (by rfl)))) (fun _ _ _ _ _ => (pv 5))) pa_nil)) rfl)))))))), ?_⟩
    refine go_start (σ := [some _, some _, some _, some _, some _, none]) rfl ?_
    walk_at "go"
    rename_i H1 s1 H2 s2 H3 s3 H4 m4 e4 b1 d1 H5 s5 f1 b2 d2 H6 s6 f2 t7 H7 n7 s7 e7 H8 m8 e8
    refine ⟨AX, rfl, ⟨_, G.axt _⟩, ?_⟩
    refine lcFilT (G.axt _) (by decide) (fun _ => rfl) (fun i z H9 R hi hz s9 hR => ?_) (fun i z H9 Q' hi hz s9 hQ => ?_) (fun D H9 ys nD s9 eD => ?_)
    · obtain ⟨zs, rfl⟩ : ∃ zs, z = V.str zs := by
        rcases (by have : i < 2 := hi; omega : i = 0 ∨ i = 1) with rfl | rfl
        · exact ⟨_, (Option.some.inj hz).symm⟩
        · exact ⟨_, (Option.some.inj hz).symm⟩
      walk_at "go"
      refine go_inSL (ss := l.map axn) (by tb_rel) ?_
      walk_at "go"
      exact hR _ _ (by tb_rel)
    · walk_at "go"
      exact hQ _ _ (by tb_rel)
    · walk_at "go"
      rename_i l10 H10 n10 s10 e10 H11 m11 e11
      have p11 : PlanAt K C H11 p rs := by tb_rel
      have g1 := rat_of f1
      have g2 := rat_of f2
      have h1 : RatAt CR H10 (.ref b1) q := by tb_rel
      have h2 : RatAt CR H10 (.ref b2) r := by tb_rel
      have ex10 : H10 x = _ := s10 _ _ (s9 _ _ e8)
      have r1 := rat_kept ex10 (fun q z => by cases z) m11.2 h1
      have r2 := rat_kept ex10 (fun q z => by cases z) m11.2 h2
      have t11 : H11 t7 = some (.tup [.ref b1, .ref b2]) := by tb_rel
      exact k _ (by tb_rel) ⟨⟨x, dx, p, t7, _, _, _, rfl, e11, p11, t11, r1, r2⟩⟩
theorem ok_mplan {f : Addr} {fd : FuncData} (F : Df K "plan" "Map.plan" s_mplan [] f fd) (GM : MpG K mg CM) : FnOk P w K mg base CX0 1 f fd ["self"] (sp_mplan K C CR CM) := by
  refine dfOk F sc_mplan (fun vs H Q E h => ?_) (fun cdv A outer s H vs Q E hr h => ?_)
  · obtain ⟨v, rs, q, r, rfl, _⟩ := h
    rfl
  · obtain ⟨v, rs, q, r, rfl, hm, k⟩ := h
    obtain ⟨a, dx, p, t, c, b1, b2, rfl, ea, hp, ht, h1, h2⟩ := hm.ex
    have cl := GM.I.cl
    have nP := GM.nP
    refine ⟨_, (pss_one (ps_ret (pe_fld' (pv 0) rfl))), ?_⟩
    refine go_start (σ := [some _]) rfl ?_
    walk_at "go"
    exact k _ hp
theorem ok_wantmap {f : Addr} {fd : FuncData} (F : Df K "want_map" "want_map" s_wantmap [] f fd) (B : Blt mg) (GM : MpG K mg CM) : FnOk P w K mg base CX0 1 f fd ["value"] (sp_wantmap K C CR CM) := by
  refine dfOk F sc_wantmap (fun vs H Q E h => ?_) (fun cdv A outer s H vs Q E hr h => ?_)
  · obtain ⟨v, rs, q, r, rfl, _⟩ := h
    rfl
  · obtain ⟨v, rs, q, r, rfl, hm, k⟩ := h
    obtain ⟨a, dx, p, t, c, b1, b2, rfl, ea, hp, ht, h1, h2⟩ := hm.ex
    refine ⟨_, (pss_one (ps_if (pt_not (pt_val (pe_callB call_isi' (by rfl) B.isinstance bt_isinstance (pa_cons (pv 0) (pa_cons (pe_glob (by rfl) GM.mgC (v := .ref CM) rfl) pa_nil)))))
  pss_never
  pss_nil)), ?_⟩
    refine go_start (σ := [some _]) rfl ?_
    walk_at "go"
    refine go_isi (GM.I.ty ea) GM.I.me ?_
    walk_at "go"
    exact k
theorem ok_msides {f : Addr} {fd : FuncData} (F : Df K "sides" "Map.sides" s_msides [] f fd) (GM : MpG K mg CM) (cWf : Ca P w K mg base 3 "want_fineness" sp_wantfine []) (cPc : Me P w K mg base 4 C "counts" (sp_pcounts K C) []) (cOv : Me P w K mg base 5 CR "over" (sp_rover CR) []) : FnOk P w K mg base CX0 6 f fd ["self", "f"] (sp_msides K C CR CM) := by
  refine dfOk F sc_msides (fun vs H Q E h => ?_) (fun cdv A outer s H vs Q E hr h => ?_)
  · obtain ⟨v, f, rs, q, r, rfl, _⟩ := h
    rfl
  · obtain ⟨v, f, rs, q, r, rfl, hm, hf, sq, sr, s0, s1, k⟩ := h
    obtain ⟨a, dx, p, t, c, b1, b2, rfl, ea, hp, ht, h1, h2⟩ := hm.ex
    have cl := GM.I.cl
    have nP := GM.nP
    have nL := GM.nL
    have z0 : (((Pm.cnt rs 0 f : Nat) : Int) : Rat) ≠ 0 := cnt_ne hp.ok 0 f
    have z1 : (((Pm.cnt rs 1 f : Nat) : Int) : Rat) ≠ 0 := cnt_ne hp.ok 1 f
    refine ⟨_, (pss_cons (ps_expr (pe_ca cWf hr (by decide) (by rfl) (pa_cons (pv 1) pa_nil)))
  (pss_cons (ps_asg (pe_me cPc hr (by decide) (pe_fld' (pv 0) rfl) (pa_cons (pv 1) pa_nil)) (pg_tup' 2 (pgs_cons (pg_name (i := 2) sc_msides.nd rfl (Or.inl rfl)) (pgs_cons (pg_name (i := 3) sc_msides.nd rfl (Or.inl rfl)) pgs_nil))))
  (pss_one (ps_ret (pe_tup (pa_cons (pe_me cOv hr (by decide) (pe_ix ix_tup' (pe_fld' (pv 0) rfl) pe_int (fun _ _ => rfl)) (pa_cons (pv 2) pa_nil)) (pa_cons (pe_me cOv hr (by decide) (pe_ix ix_tup' (pe_fld' (pv 0) rfl) pe_int (fun _ _ => rfl)) (pa_cons (pv 3) pa_nil)) pa_nil))))))), ?_⟩
    refine go_start (σ := [some _, some _, none, none]) rfl ?_
    walk_at "go"
    rename_i t1 H1 s1 e1 c1 y1 H2 s2 f1 c2 y2 H3 s3 f2 t4 H4 n4 s4 e4
    have g1 := rat_of f1
    have g2 := rat_of f2
    exact k _ _ _ _ (by tb_rel) e4 (by tb_rel) (by tb_rel)
end
end T
set_option Elab.async false
set_option maxRecDepth 100000
set_option maxHeartbeats 4000000
namespace T
open PySem L2 Mv
abbrev s_wantkind : Stmt := top 59
theorem sc_wantkind : FnScope ["value"] ["value"] (defScope s_wantkind) := ⟨rfl, rfl, rfl, by decide +kernel, rfl, by decide +kernel, by decide +kernel⟩
abbrev s_isreach : Stmt := top 63
theorem sc_isreach : FnScope ["value"] ["value"] (defScope s_isreach) := ⟨rfl, rfl, rfl, by decide +kernel, rfl, by decide +kernel, by decide +kernel⟩
/-- the kinds -/
structure KdG (K : PySem.W.Frag) (mg : Str → Option Value) (KD : Addr) : Prop where
  kinds : mg "KINDS" = some (.ref KD)
  kt : ∀ H : Hp, SqT K H KD [.str "box", .str "sum"]
section
variable {P : Program} {w : World} {K : PySem.W.Frag} {mg : Str → Option Value} {base : Heap} {C AX CR CM KD : Addr}
def sp_wantkind : Sp := fun vs H Q _ => ∃ (s : Str), vs = [.str s] ∧ (s = "box" ∨ s = "sum") ∧ Q .non H
theorem c_wantkind {s : Str} {H : Hp} {Q : VK} {E : XK} (h0 : (s = "box" ∨ s = "sum")) (q : Q .non H) : sp_wantkind  [.str s] H Q E := ⟨_, rfl, h0, q⟩
def sp_isreach (CR : Addr) : Sp := fun vs H Q _ => ∃ (v : V) (r : Rat), vs = [v] ∧ NumAt CR H v r ∧ SzQ r ∧ 0 < r ∧ r ≤ 1 ∧ ∀ H', Same H H' → Q (.bl true) H'
theorem c_isreach {CR : Addr} {v : V} {r : Rat} {H : Hp} {Q : VK} {E : XK} (h0 : NumAt CR H v r) (h1 : SzQ r) (h2 : 0 < r) (h3 : r ≤ 1) (q : ∀ H', Same H H' → Q (.bl true) H') : sp_isreach CR [v] H Q E := ⟨_, _, rfl, h0, h1, h2, h3, q⟩
local macro_rules | `(tactic| tb_rel) => `(tactic| repeat (first
  | with_reducible assumption
  | with_reducible exact Dp.int _
  | with_reducible exact Dp.str _
  | with_reducible exact Dp.bl _
  | with_reducible exact Dp.non
  | (with_reducible apply SqT.of; with_reducible assumption)
  | (with_reducible apply SqL.of; with_reducible assumption)
  | (with_reducible apply up_dp; with_reducible assumption)
  | (with_reducible apply up_sqt; with_reducible assumption)
  | (with_reducible apply up_sql; with_reducible assumption)
  | (with_reducible apply up_get; with_reducible assumption)
  | (with_reducible apply up_pot; with_reducible assumption)
  | with_reducible exact Same.refl _
  | with_reducible exact Bu.refl _ _
  | (with_reducible apply up_same; with_reducible assumption)
  | (with_reducible apply up_bu; with_reducible assumption)
  | (with_reducible apply bu_bu; with_reducible assumption)
  | (with_reducible apply free_of; with_reducible assumption)
  | (with_reducible apply mi_fr; with_reducible assumption; (focus (tb_rel; done)))
  | (with_reducible apply mi_dp; with_reducible assumption)
  | (with_reducible apply mi_sqt; with_reducible assumption)
  | (with_reducible apply mi_sql; with_reducible assumption)
  | (with_reducible apply mi_gett; with_reducible assumption)
  | (with_reducible apply mi_getl; with_reducible assumption)
  | (with_reducible apply mi_pot; with_reducible assumption)
  | (with_reducible apply mi_refl; with_reducible assumption; (focus (with_unfolding_all exact rfl)))
  | (with_reducible apply up_mi; with_reducible assumption)
  | (with_reducible apply mi_mi; with_reducible assumption)
  | (with_reducible apply mi_bu; with_reducible assumption)
  | with_reducible exact num_int _
  | (with_reducible apply rat_of; with_reducible assumption)
  | (with_reducible apply num_rat; (focus (tb_rel; done)))
  | (with_reducible apply up_plan; with_reducible assumption)
  | (with_reducible apply bu_plan; with_reducible assumption; (focus (tb_rel; done)))
  | (with_reducible apply mi_plan; with_reducible assumption; (focus (lcg_src; done)))
  | (with_reducible apply up_rat; with_reducible assumption)
  | (with_reducible apply up_num; with_reducible assumption)
  | (with_reducible apply mi_rat; with_reducible assumption; (focus (lcg_src; done)))
  | (with_reducible apply mi_num; with_reducible assumption; (focus (lcg_src; done)))
  | (with_reducible apply bu_rat; with_reducible assumption; (focus (tb_rel; done)))
  | (with_reducible apply bu_num; with_reducible assumption; (focus (tb_rel; done)))
  | (with_reducible apply up_map; with_reducible assumption)
  | (with_reducible apply bu_gett; with_reducible assumption; (focus (tb_rel; done)))
  | (with_reducible apply bu_geti; with_reducible assumption; (focus (tb_rel; done)))
  | (with_reducible apply bu_get; with_reducible assumption; (focus (tlg_ne; done)))
  | (with_reducible apply bu_sqt; with_reducible assumption; (focus (tb_rel; done)))
  | (with_reducible apply bu_sql; with_reducible assumption; (focus (tlg_ne; done)))
  | (with_reducible apply bu_dp; with_reducible assumption; (focus (tb_rel; done)); (focus (lcg_src; done)))
  | fail "up"))
local macro_rules | `(tactic| tlg_ne) => `(tactic| first
  | with_reducible assumption
  | (with_reducible apply pot_ne; with_reducible assumption; (focus (tb_rel; done)))
  | fail "ne")
local macro_rules | `(tactic| lcg_src) => `(tactic| first
  | with_reducible assumption
  | with_unfolding_all exact rfl
  | with_unfolding_all decide
  | with_unfolding_all exact Nat.ne_of_beq_eq_false rfl
  | (apply_assumption; done)
  | omega
  | (simp; done)
  | (simp; omega)
  | fail "sd")
local macro_rules | `(tactic| lcg_sub) => `(tactic| first
  | (unfold sizeLine; omega)
  | (simp only [List.length_cons, List.length_nil, List.length_append, List.length_map, List.length_replicate, List.length_take, List.length_drop]; unfold sizeLine; omega)
  | (simp; unfold sizeLine; omega)
  | fail "sz")
local macro_rules | `(tactic| nest_cls) => `(tactic| first
  | (tb_rel; done)
  | (with_reducible apply nmI; (focus (tb_rel; done)))
  | (with_reducible apply d_tup; (focus (tb_rel; done)); (focus (lsm_bools; done)))
  | (with_reducible apply d_lst; (focus (tb_rel; done)); (focus (lsm_bools; done)))
  | fail "dp")
local macro_rules | `(tactic| lsm_bools) => `(tactic| repeat (first
  | with_reducible exact DpAll.nil
  | with_reducible assumption
  | (with_reducible apply DpAll.cons; (focus (nest_cls; done)))
  | fail "dpa"))
local macro_rules | `(tactic| none_booked) => `(tactic| first | with_unfolding_all exact rfl | (with_reducible apply atI_nat; with_reducible assumption) | fail "ix")
local macro_rules | `(tactic| walk_at "go") => `(tactic| repeat (first
  | (focus (with_reducible refine go_var (v := ?_) ?_ ?_; rotate_left; (focus (with_unfolding_all exact rfl))))
  | with_reducible refine go_seq ?_
  | with_reducible refine go_cN ?_
  | with_reducible refine go_c ?_
  | with_reducible refine go_op ?_
  | with_reducible refine go_nil ?_
  | with_reducible refine go_cons ?_
  | with_reducible refine go_cb ?_
  | with_reducible refine go_call0 ?_
  | with_reducible refine go_asg ?_
  | (focus (with_reducible refine go_gname (σ' := ?_) ?_ ?_; rotate_left; (focus (simp only [List.set_cons_succ, List.set_cons_zero]; exact rfl))))
  | with_reducible refine go_par ?_
  | (focus (with_reducible refine go_par2 (σ' := ?_) ?_ ?_; rotate_left; (focus (simp only [List.set_cons_succ, List.set_cons_zero]; exact rfl))))
  | with_reducible refine go_ifs ?_
  | with_reducible refine go_test ?_
  | with_reducible refine go_tb ?_
  | with_reducible refine go_asb ?_
  | with_reducible refine go_asi ?_
  | with_reducible refine go_ret ?_
  | with_reducible refine go_retn ?_
  | with_reducible refine go_drop ?_
  | with_reducible refine go_next ?_
  | with_reducible refine go_and ?_
  | with_reducible refine go_or ?_
  | with_reducible refine go_not ?_
  | with_reducible refine go_andv ?_
  | with_reducible refine go_orv ?_
  | with_reducible refine go_notv ?_
  | with_reducible refine go_ife ?_
  | with_reducible refine go_chain ?_
  | with_reducible refine go_if1 ?_
  | with_reducible refine go_if0 ?_
  | with_reducible refine go_ifn1 ?_
  | with_reducible refine go_ifn0 ?_
  | (with_reducible apply go_ift; (focus (first | with_reducible rfl | with_reducible assumption | omega)))
  | (with_reducible apply go_ifnt; (focus (first | with_reducible rfl | with_reducible assumption | omega)))
  | (with_reducible apply go_iff; (focus (first | with_reducible assumption | omega)))
  | (with_reducible apply go_ifnf; (focus (first | with_reducible assumption | omega)))
  | with_reducible refine go_un ?_
  | with_reducible refine go_tup ?_
  | with_reducible refine go_lst ?_
  | (with_reducible apply go_newt; (focus (lcg_sub; done)); intros)
  | (with_reducible apply go_newl; (focus (lcg_sub; done)); intros)
  | with_reducible refine go_meth ?_
  | with_reducible refine go_for ?_
  | with_reducible refine go_lc ?_
  | with_reducible refine go_irng1 ?_
  | with_reducible refine go_irng2 ?_
  | with_reducible refine go_ilist ?_
  | with_reducible refine go_itup ?_
  | with_reducible refine go_izip ?_
  | with_reducible refine go_ienum ?_
  | (with_reducible apply go_rg1; (focus (lcg_src; done)))
  | (with_reducible apply go_rg2; (focus (lcg_src; done)); (focus (lcg_src; done)))
  | (with_reducible apply go_lsr; (focus (tb_rel; done)))
  | (with_reducible apply go_tpr; (focus (tb_rel; done)))
  | (with_reducible apply go_zpr; (focus (tb_rel; done)); (focus (tb_rel; done)))
  | (with_reducible apply go_zprT; (focus (tb_rel; done)); (focus (tb_rel; done)))
  | (with_reducible apply go_enrL; (focus (tb_rel; done)))
  | (with_reducible apply go_enrT; (focus (tb_rel; done)))
  | with_reducible refine go_prop ?_
  | with_reducible refine go_knr0 ?_
  | (with_reducible apply go_knr; (focus (with_unfolding_all exact rfl; done)); (focus (simp only [kSw2, kRev3, kId, List.nil_append, List.cons_append]; exact rfl)))
  | with_reducible refine go_mkn ?_
  | (with_reducible apply go_mkr; (focus (tb_rel; done)); (focus (with_unfolding_all exact rfl; done)))
  | with_reducible refine go_fld ?_
  | (with_reducible apply go_flr; (focus (tb_rel; done)); (focus (with_reducible assumption; done)); (focus (with_reducible assumption; done)); (focus (with_unfolding_all exact rfl; done)))
  | (with_reducible apply go_prr; (focus (tb_rel; done)))
  | (with_reducible apply go_mer; (focus (tb_rel; done)); (focus (with_unfolding_all exact rfl; done)))
  | with_reducible refine go_sfld ?_
  | (with_reducible apply go_sfr; (focus (tb_rel; done)); (focus (with_reducible assumption; done)); (focus (with_reducible assumption; done)); (focus (with_unfolding_all exact Nat.le_of_ble_eq_true rfl; done)); (focus (with_unfolding_all exact rfl; done)); intros)
  | with_reducible refine go_revt ?_
  | with_reducible refine go_make0 ?_
  | (focus (with_reducible refine go_aug (x := ?_) ?_ ?_; rotate_left; (focus (with_unfolding_all exact rfl))))
  | (focus (with_reducible refine go_augk (σ' := ?_) ?_ ?_; rotate_left; (focus (simp only [List.set_cons_succ, List.set_cons_zero]; exact rfl))))
  | with_reducible refine go_min2 ?_
  | with_reducible refine go_int1 ?_
  | with_reducible refine go_max2 ?_
  | with_reducible refine go_intB ?_
  | with_reducible refine go_absN ?_
  | with_reducible refine go_isN ?_
  | with_reducible refine go_notN ?_
  | (with_reducible apply go_rvt; (focus (tb_rel; done)); (focus (simp only [List.reverse_cons, List.reverse_nil, List.nil_append, List.cons_append]; exact rfl)); intros)
  | (with_reducible apply go_reprNm; (focus (tb_rel; done)); (focus (with_reducible assumption; done)))
  | (with_reducible apply go_reprPr; (focus (nest_cls; done)); (focus (lcg_src; done)); (focus (lcg_src; done)))
  | with_reducible refine go_sl ?_
  | with_reducible refine go_part ?_
  | with_reducible refine go_nopart ?_
  | (with_reducible apply go_gtup; (focus (tb_rel; done)); (focus (with_unfolding_all exact rfl; done)))
  | (with_reducible apply go_gunl; (focus (tb_rel; done)); (focus (with_unfolding_all exact rfl; done)))
  | with_reducible refine go_gcons ?_
  | with_reducible refine go_gnil ?_
  | with_reducible refine go_addN ?_
  | with_reducible refine go_ltN ?_
  | with_reducible refine go_leN ?_
  | with_reducible refine go_gtN ?_
  | with_reducible refine go_geN ?_
  | (with_reducible apply go_subN; (focus (omega; done)))
  | with_reducible refine go_rI0 ?_
  | (with_reducible apply go_mulN; (focus (omega; done)))
  | (with_reducible apply go_modN; (focus (omega; done)))
  | (with_reducible apply go_divN; (focus (omega; done)))
  | (with_reducible apply go_powN; (focus (with_unfolding_all decide; done)))
  | with_reducible refine go_rU ?_
  | with_reducible refine go_eqN ?_
  | with_reducible refine go_neN ?_
  | with_reducible refine go_isB ?_
  | with_reducible refine go_notB ?_
  | with_reducible refine go_eqS ?_
  | with_reducible refine go_neS ?_
  | with_reducible refine go_eqB ?_
  | with_reducible refine go_eqI ?_
  | with_reducible refine go_neI ?_
  | (with_reducible apply go_ixt; (focus (tb_rel; done)); (focus (none_booked; done)))
  | (with_reducible apply go_ixl; (focus (tb_rel; done)); (focus (none_booked; done)))
  | (with_reducible apply go_lent; (focus (tb_rel; done)))
  | (with_reducible apply go_lenNm; (focus (tb_rel; done)))
  | (with_reducible apply go_isiNm; (focus (tb_rel; done)))
  | (with_reducible apply go_lenl; (focus (tb_rel; done)))
  | (with_reducible apply go_catA; (focus (tb_rel; done)); (focus (tb_rel; done)); (focus (lcg_sub; done)); intros)
  | (with_reducible apply go_slaT; (focus (tb_rel; done)); intros)
  | (with_reducible apply go_slaD; (focus (tb_rel; done)); intros)
  | (with_reducible apply go_rep; (focus (tb_rel; done)); (focus (lcg_src; done)); intros)
  | (with_reducible apply go_tupofl; (focus (tb_rel; done)); intros)
  | (with_reducible apply go_sllT; (focus (tb_rel; done)); intros)
  | (with_reducible apply go_sllD; (focus (tb_rel; done)); intros)
  | (with_reducible apply go_cat; (focus (tb_rel; done)); (focus (tb_rel; done)); (focus (lcg_sub; done)); intros)
  | (with_reducible apply go_eqP; with_reducible assumption; (focus (tb_rel; done)); (focus (tb_rel; done)))
  | (with_reducible apply go_neP; with_reducible assumption; (focus (tb_rel; done)); (focus (tb_rel; done)))
  | (with_reducible apply go_mkrat; with_reducible assumption; with_reducible assumption; intros)
  | (with_reducible apply go_mkrat1; intros)
  | (with_reducible apply go_merR; (focus (tb_rel; done)); (focus decide); (focus decide))
  | (with_reducible apply go_prR; (focus (tb_rel; done)))
  | (with_reducible apply go_mep; (focus (tb_rel; done)); (focus decide); (focus decide); (focus decide))
  | (with_reducible apply c_isnum; (focus (tb_rel; done)); intros)
  | (with_reducible apply c_isreach; (focus (tb_rel; done)); (focus (lcg_src; done)); (focus (lcg_src; done)); (focus (lcg_src; done)); intros)
  | (with_reducible apply c_rbelow; (focus (tb_rel; done)); (focus (tb_rel; done)); (focus (lcg_src; done)); (focus (lcg_src; done)); intros)
  | (with_reducible apply c_rinit; (focus (tb_rel; done)); (focus (lcg_src; done)); (focus (lcg_src; done)); intros)
  | (with_reducible apply c_wantkind; (focus (lcg_src; done)); intros)
  | fail "go"))
theorem ok_wantkind {f : Addr} {fd : FuncData} (F : Df K "want_kind" "want_kind" s_wantkind [] f fd) (B : Blt mg) (GK : KdG K mg KD) : FnOk P w K mg base CX0 1 f fd ["value"] sp_wantkind := by
  refine dfOk F sc_wantkind (fun vs H Q E h => ?_) (fun cdv A outer s H vs Q E hr h => ?_)
  · obtain ⟨z, rfl, _⟩ := h
    rfl
  · obtain ⟨z, rfl, hz, k⟩ := h
    refine ⟨_, (pss_one (ps_if (PW.pt (pw_or (pt_not (pt_val (pe_callB call_isi' (by rfl) B.isinstance bt_isinstance (pa_cons (pv 0) (pa_cons (pe_bltn (v := .ty "str") (by rfl) B.str bt_str rfl) pa_nil))))) (pw_or1 (pt_cmpR op_notIn_seq' (pv 0) (pe_glob (v := .ref KD) (by rfl) GK.kinds rfl) (by rfl)))))
  pss_never
  pss_nil)), ?_⟩
    refine go_start (σ := [some _]) rfl ?_
    walk_at "go"
    refine ⟨_, _, _, _, true, rfl, .ty _, .base (.str _), kit_ty (by decide +kernel), ?_⟩
    walk_at "go"
    refine ⟨KD, [.str "box", .str "sum"], rfl, .inr (GK.kt _), rfl, rfl, ?_⟩
    have e : inV (.str z) [.str "box", .str "sum"] = true := by
      rcases hz with rfl | rfl <;> rfl
    rw [e]
    walk_at "go"
    exact k
theorem ok_isreach {f : Addr} {fd : FuncData} (F : Df K "is_reach" "is_reach" s_isreach [] f fd) (GR : RtG K mg CR) (cNum : Ca P w K mg base 2 "is_number" (sp_isnum CR) []) (cRt1 : Ma P w K mg base 2 "Ratio" CR (sp_rinit CR) [.int 1]) (cLt : Me P w K mg base 5 CR "is_below" (sp_rbelow CR) []) : FnOk P w K mg base CX0 6 f fd ["value"] (sp_isreach CR) := by
  refine dfOk F sc_isreach (fun vs H Q E h => ?_) (fun cdv A outer s H vs Q E hr h => ?_)
  · obtain ⟨v, r, rfl, _⟩ := h
    rfl
  · obtain ⟨v, r, rfl, hv, sr, r0, r1, k⟩ := h
    have z0 : SzQ ((0 : Int) : Rat) := by constructor <;> decide
    have z1 : SzQ ((1 : Int) : Rat) := by constructor <;> decide
    refine ⟨_, (pss_one (ps_ret (pe_and (pe_ca cNum hr (by decide) (by rfl) (pa_cons (pv 0) pa_nil)) (pe_and (pe_me cLt hr (by decide) (pe_ma cRt1 hr (by decide) (by rfl) (pa_cons pe_int pa_nil)) (pa_cons (pv 0) pa_nil)) (pe_one (pe_not (pe_me cLt hr (by decide) (pe_ma cRt1 hr (by decide) (by rfl) (pa_cons pe_int pa_nil)) (pa_cons (pv 0) pa_nil)))))))), ?_⟩
    refine go_start (σ := [some _]) rfl ?_
    walk_at "go"
    have e : decide ((((1 : Nat) : Int) : Rat) < r) = false := decide_eq_false (Rat.not_lt.mpr r1)
    rw [e]
    exact k _ (by tb_rel)
end
end T
set_option Elab.async false
set_option maxRecDepth 100000
/-! A dict changes: for the steps. -/
namespace Mv
open PySem PySem.Spec PyProof.Rows L2
/-- the dict at D may change, nothing else that was -/
def Bd (D : Addr) (H H' : Hp) : Prop := (∃ kvs, H D = some (.dK kvs)) ∧ Bu D H H'
def DgR (ty : TE) (σ : L2.St) (Q : VK) : VK := fun x H1 => ty σ H1 fun y H2 => ∃ a v, x = .ref a ∧ DGet H2 a y (some v) ∧ Q v H2
def DnR (td : TE) (σ : L2.St) (Q : VK) : VK := fun y H1 => td σ H1 fun x H2 => ∃ a o, x = .ref a ∧ DGet H2 a y o ∧ Q (.bl (!o.isSome)) H2
def DpR (td ty : TE) (σ : L2.St) (n : L2.St → Hp → Prop) : VK := fun v H1 => td σ H1 fun x H2 => ty σ H2 fun y H3 => ∃ a H4, x = .ref a ∧ DPut H3 a y v H4 ∧ n σ H4
section
variable {K : PySem.W.Frag} {σ : L2.St} {H H' : Hp} {Q : VK} {n b c : L2.St → Hp → Prop} {rt : VK} {x y v : V} {xs ys : List V} {td tv ty : TE} {a p q C dx D : Addr} {fs : List (Str × V)} {d : PyData} {ds : List PyData} {vs : List V} {kvs : List (Key × V)}
theorem bd_sqt (s : Bd D H H') (h : SqT K H p xs) : SqT K H' p xs := by
  obtain ⟨⟨z, e⟩, b⟩ := s
  rcases h with (h | ⟨o, h⟩) | h
  · exact .inl (.inl (b p _ (fun z => by rw [z, e] at h; cases h) h))
  · exact .inl (.inr ⟨o, b p _ (fun z => by rw [z, e] at h; cases h) h⟩)
  · exact .inr h
theorem bd_sql (s : Bd D H H') (h : SqL K H p xs) : SqL K H' p xs := by
  obtain ⟨⟨z, e⟩, b⟩ := s
  rcases h with (h | ⟨o, h⟩) | h
  · exact .inl (.inl (b p _ (fun z => by rw [z, e] at h; cases h) h))
  · exact .inl (.inr ⟨o, b p _ (fun z => by rw [z, e] at h; cases h) h⟩)
  · exact .inr h
theorem bd_gett (s : Bd D H H') (h : H p = some (.tup xs)) : H' p = some (.tup xs) := by
  obtain ⟨⟨z, e⟩, b⟩ := s
  exact b p _ (fun z => by rw [z, e] at h; cases h) h
theorem bd_getl (s : Bd D H H') (h : H p = some (.lst xs)) : H' p = some (.lst xs) := by
  obtain ⟨⟨z, e⟩, b⟩ := s
  exact b p _ (fun z => by rw [z, e] at h; cases h) h
theorem bd_geti (s : Bd D H H') (h : H p = some (.ins C dx fs)) : H' p = some (.ins C dx fs) := by
  obtain ⟨⟨z, e⟩, b⟩ := s
  exact b p _ (fun z => by rw [z, e] at h; cases h) h
theorem bd_getd (s : Bd D H H') (hne : p ≠ D) (h : H p = some (.dK kvs)) : H' p = some (.dK kvs) := s.2 p _ hne h
theorem bd_pot (s : Bd D H H') (h : Pot H p) : Pot H' p := by
  obtain ⟨x, y, e, r⟩ := h.ex
  exact ⟨x, y, bd_getl s e, r⟩
mutual
theorem bd_dp' (s : Bd D H H') : ∀ (d : PyData) (v : V), Dp K H v d → Dp K H' v d
  | .none, _, h => by cases h; exact .non
  | .bool b, _, h => by cases h; exact .bl b
  | .int i, _, h => by cases h; exact .int i
  | .str x, _, h => by cases h; exact .str x
  | .list ds, _, h => by
    cases h with
    | lst hs ha => exact .lst (bd_sql s hs) (bd_dpa' s ds _ ha)
  | .tuple ds, _, h => by
    cases h with
    | tup hs ha => exact .tup (bd_sqt s hs) (bd_dpa' s ds _ ha)
  | .dict _, _, h => by cases h
theorem bd_dpa' (s : Bd D H H') : ∀ (ds : List PyData) (vs : List V), DpAll K H vs ds → DpAll K H' vs ds
  | [], _, h => by cases h; exact .nil
  | d :: ds, _, h => by
    cases h with
    | cons h1 h2 => exact .cons (bd_dp' s d _ h1) (bd_dpa' s ds _ h2)
end
theorem bd_dp (s : Bd D H H') (h : Dp K H v d) : Dp K H' v d := bd_dp' s d v h
theorem bd_dpa (s : Bd D H H') (h : DpAll K H vs ds) : DpAll K H' vs ds := bd_dpa' s ds vs h
theorem bd_refl (h : H D = some (.dK kvs)) : Bd D H H := ⟨⟨kvs, h⟩, Bu.refl _ _⟩
theorem Bd.up {H0 : Hp} (h : Bd D H0 H) (s : Same H H') : Bd D H0 H' := ⟨h.1, h.2.trans (Bu.of s D)⟩
theorem up_bd {H0 : Hp} (s : Same H H') (h : Bd D H0 H) : Bd D H0 H' := h.up s
theorem bd_bd {H0 : Hp} (s : Bd D H H') (h : Bd D H0 H) : Bd D H0 H' := ⟨h.1, h.2.trans s.2⟩
/-! steps -/
theorem go_dget (q : td σ H (DgR ty σ Q)) : tDGet td ty σ H Q := q
theorem go_dgr (q : ty σ H fun y H2 => ∃ a v, x = .ref a ∧ DGet H2 a y (some v) ∧ Q v H2) : DgR ty σ Q x H := q
theorem go_dnotin (q : ty σ H (DnR td σ Q)) : tDNotIn ty td σ H Q := q
theorem go_dnr (q : td σ H fun x H2 => ∃ a o, x = .ref a ∧ DGet H2 a y o ∧ Q (.bl (!o.isSome)) H2) : DnR td σ Q y H := q
theorem go_dput (q : tv σ H (DpR td ty σ n)) : sDPut td ty tv ⟨n, rt, b, c⟩ σ H := q
theorem go_dpr (q : td σ H fun x H2 => ty σ H2 fun y H3 => ∃ a H4, x = .ref a ∧ DPut H3 a y v H4 ∧ n σ H4) : DpR td ty σ n v H := q
/-- a number or a text as key -/
theorem dg_int {i : Int} (h : H D = some (.dK kvs)) : DGet H D (.int i) (valV kvs (.inl i)) := DGet.k (k := .inl i) h
theorem dg_str {s : Str} (h : H D = some (.dK kvs)) : DGet H D (.str s) (valV kvs (.inr s)) := DGet.k (k := .inr s) h
theorem dp_int {i : Int} (h : H D = some (.dK kvs)) (hl : kvs.length < sizeLine) : DPut H D (.int i) v (upd H D (.dK (putK kvs (.inl i) v))) := DPut.k (k := .inl i) h hl
theorem dp_str {s : Str} (h : H D = some (.dK kvs)) (hl : kvs.length < sizeLine) : DPut H D (.str s) v (upd H D (.dK (putK kvs (.inr s) v))) := DPut.k (k := .inr s) h hl
theorem bd_set {o : HO} (h : H D = some (.dK kvs)) : Bd D H (upd H D o) := ⟨⟨kvs, h⟩, Bu.set⟩
end
theorem units1 {j : Nat} {A : Around} (h : Room j A) : A.units + 1 < cLine := Nat.lt_of_le_of_lt (Nat.add_le_add_left (by decide) _) h.units
end Mv
set_option Elab.async false
set_option maxRecDepth 100000
set_option maxHeartbeats 4000000
namespace T
open PySem L2 Mv
abbrev s_ginit : Stmt := inClass (top 64) 0
theorem sc_ginit : FnScope ["self", "area", "east", "north", "kind", "reach"] ["self", "area", "east", "north", "kind"] (defScope s_ginit) := ⟨rfl, rfl, rfl, by decide +kernel, rfl, by decide +kernel, by decide +kernel⟩
abbrev s_gfound : Stmt := inClass (top 64) 7
theorem sc_gfound : FnScope ["self", "f", "east", "north", "side", "reach"] ["self", "f"] (defScope s_gfound) := ⟨rfl, rfl, rfl, by decide +kernel, rfl, by decide +kernel, by decide +kernel⟩
abbrev s_gat : Stmt := inClass (top 64) 6
theorem sc_gat : FnScope ["self", "f"] ["self", "f"] (defScope s_gat) := ⟨rfl, rfl, rfl, by decide +kernel, rfl, by decide +kernel, by decide +kernel⟩
abbrev s_ggreat : Stmt := inClass (top 64) 4
theorem sc_ggreat : FnScope ["self", "f"] ["self", "f"] (defScope s_ggreat) := ⟨rfl, rfl, rfl, by decide +kernel, rfl, by decide +kernel, by decide +kernel⟩
/-- what stands of the class Gauge -/
structure GaG (K : PySem.W.Frag) (mg : Str → Option Value) (CG : Addr) : Prop where
  I : ClsI K CG
  mgC : mg "Gauge" = some (.ref CG)
  nA : NoAttr K CG "own_area"
  nR : NoAttr K CG "own_reaches"
  nK : NoAttr K CG "own_kind"
  nS : NoAttr K CG "own_sides"
  nB : NoAttr K CG "own_bounds"
section
variable {P : Program} {w : World} {K : PySem.W.Frag} {mg : Str → Option Value} {base : Heap} {C AX CR CM CG KD : Addr}
theorem bd_plan {D : Addr} {H H' : Hp} {v : V} {rs : List (List Pm.Cut)} (s : Bd D H H') (h : PlanAt K C H v rs) : PlanAt K C H' v rs := by
  obtain ⟨b, dx, R, Pt, e, eb, h1, h2⟩ := h.ex
  exact ⟨⟨b, dx, R, Pt, e, bd_geti s eb, bd_dp s h1, bd_dp s h2⟩, h.ok⟩
theorem bd_rat {D : Addr} {H H' : Hp} {v : V} {q : Rat} (s : Bd D H H') (h : RatAt CR H v q) : RatAt CR H' v q := by
  obtain ⟨a, dx, e, ea⟩ := h
  exact ⟨a, dx, e, bd_geti s ea⟩
theorem bd_num {D : Addr} {H H' : Hp} {v : V} {q : Rat} (s : Bd D H H') (h : NumAt CR H v q) : NumAt CR H' v q := h.imp id (bd_rat s)
theorem bd_map {D : Addr} {H H' : Hp} {v : V} {rs : List (List Pm.Cut)} {x y : Rat} (s : Bd D H H') (h : MapAt K C CR CM H v rs x y) : MapAt K C CR CM H' v rs x y := by
  obtain ⟨a, dx, p, t, c, b1, b2, e, ea, hp, ht, h1, h2⟩ := h.ex
  exact ⟨a, dx, p, t, c, b1, b2, e, bd_geti s ea, bd_plan s hp, bd_gett s ht, bd_rat s h1, bd_rat s h2⟩
theorem go_meM {H : Hp} {v : V} {rs : List (List Pm.Cut)} {x y : Rat} {m : Str} {sp : Sp} {E : XK} {t : TA} {σ : L2.St} {Q : VK} (h : MapAt K C CR CM H v rs x y) (m1 : m ≠ "own_plan") (m2 : m ≠ "own_lengths") (m3 : m ≠ "own_closed") (k : t σ H fun vs H2 => sp (v :: vs) H2 Q E) : MeR CM m sp [] E t σ Q v H := by
  obtain ⟨a, dx, p, l, c, b1, b2, rfl, ea, hp, ht, h1, h2⟩ := h.ex
  have z : ∀ {x : Str}, m ≠ x → (m == x) = false := fun h => by simpa using h
  exact go_mer ea (by unfold mpF; simp only [List.lookup, z m1, z m2, z m3]) k
theorem rat_lst {H : Hp} {D : Addr} {zs : List V} {o : HO} {v : V} {q : Rat} (e : H D = some (.lst zs)) (h : RatAt CR H v q) : RatAt CR (upd H D o) v q := by
  obtain ⟨a, dx, rfl, ea⟩ := h
  refine ⟨a, dx, rfl, ?_⟩
  rw [upd_ne (fun z => by rw [z, e] at ea; cases ea)]
  exact ea
def gaF (a r k s b : V) : List (Str × V) := [("own_area", a), ("own_reaches", r), ("own_kind", k), ("own_sides", s), ("own_bounds", b)]
/-- the greatest distance -/
def bnd (rs : List (List Pm.Cut)) (x y p q : Rat) (f : Nat) : Rat :=
  if x / (((Pm.cnt rs 0 f : Nat) : Int) : Rat) * p < y / (((Pm.cnt rs 1 f : Nat) : Int) : Rat) * q then x / (((Pm.cnt rs 0 f : Nat) : Int) : Rat) * p else y / (((Pm.cnt rs 1 f : Nat) : Int) : Rat) * q
theorem nodup_len : ∀ (N : Nat) (l : List Nat), l.Nodup → (∀ x ∈ l, x < N) → l.length ≤ N
  | 0, [], _, _ => Nat.le_refl _
  | 0, a :: _, _, h => absurd (h a (List.mem_cons_self ..)) (Nat.not_lt_zero _)
  | N + 1, l, nd, h => by
    have e := nodup_len N (l.erase N) (nd.erase N) (fun x hx => by
      obtain ⟨h1, h2⟩ := (nd.mem_erase_iff).mp hx
      have := h x h2
      omega)
    by_cases m : N ∈ l
    · rw [List.length_erase_of_mem m] at e
      omega
    · rw [List.erase_of_not_mem m] at e
      omega
/-- the keys are distinct numbers up to 1000 -/
def KeyOk (kvs : List (Key × V)) : Prop := ∃ ns : List Nat, kvs.map (·.1) = ns.map (fun (n : Nat) => Sum.inl (n : Int)) ∧ ns.Nodup ∧ ∀ n ∈ ns, n < 1001
theorem KeyOk.len {kvs : List (Key × V)} (h : KeyOk kvs) : kvs.length ≤ 1001 := by
  obtain ⟨ns, e, nd, l⟩ := h
  have := congrArg List.length e
  rw [List.length_map, List.length_map] at this
  rw [this]
  exact nodup_len _ _ nd l
theorem KeyOk.put {kvs : List (Key × V)} {f : Nat} {z : V} (h : KeyOk kvs) (hf : f < 1001) (hn : valV kvs (.inl (f : Int)) = none) : KeyOk (putK kvs (.inl (f : Int)) z) := by
  obtain ⟨ns, e, nd, l⟩ := h
  rw [putK_new z hn]
  refine ⟨ns ++ [f], by rw [List.map_append, List.map_append, e]; rfl, ?_, ?_⟩
  · rw [List.nodup_append]
    refine ⟨nd, by simp, fun x hx y hy => ?_⟩
    obtain rfl : y = f := by simpa using hy
    rintro rfl
    have hm : (Sum.inl (x : Int) : Key) ∈ kvs.map (·.1) := by rw [e]; exact List.mem_map.mpr ⟨x, hx, rfl⟩
    obtain ⟨kv, hk, ek⟩ := List.mem_map.mp hm
    have a := valV_any (Sum.inl (x : Int)) kvs
    rw [hn] at a
    have : (kvs.any fun kv => decide (kv.1 = Sum.inl (x : Int))) = true := List.any_eq_true.mpr ⟨kv, hk, decide_eq_true ek⟩
    rw [this] at a
    cases a
  · intro n hn
    rcases List.mem_append.mp hn with h | h
    · exact l n h
    · obtain rfl : n = f := by simpa using h
      exact hf
/-- a gauge: its map, its reaches; D: the dict of the greatest distances found -/
structure GauAt (K : PySem.W.Frag) (C CR CM CG : Addr) (H : Hp) (v : V) (D : Addr) (rs : List (List Pm.Cut)) (x y p q : Rat) : Prop where
  ex : ∃ a dx m t k s b1 b2 kvs, v = .ref a ∧ H a = some (.ins CG dx (gaF m (.ref t) k s (.ref D))) ∧ MapAt K C CR CM H m rs x y ∧ H t = some (.tup [b1, b2]) ∧ RatAt CR H b1 p ∧ RatAt CR H b2 q ∧
    H D = some (.dK kvs) ∧ KeyOk kvs ∧ ∀ (f : Nat) z, valV kvs (.inl (f : Int)) = some z → RatAt CR H z (bnd rs x y p q f)
def sp_gfound (K : PySem.W.Frag) (C CR CM CG : Addr) : Sp := fun vs H Q _ => ∃ (v : V) (f : Nat) (D : Addr) (rs : List (List Pm.Cut)) (x y p q : Rat), vs = [v, .int f] ∧ GauAt K C CR CM CG H v D rs x y p q ∧ f ≤ 1000 ∧ SzQ x ∧ SzQ y ∧ SzQ (((Pm.cnt rs 0 f : Nat) : Int) : Rat) ∧ SzQ (((Pm.cnt rs 1 f : Nat) : Int) : Rat) ∧ SzQ p ∧ SzQ q ∧
  SzQ (x / (((Pm.cnt rs 0 f : Nat) : Int) : Rat)) ∧ SzQ (y / (((Pm.cnt rs 1 f : Nat) : Int) : Rat)) ∧ SzQ (x / (((Pm.cnt rs 0 f : Nat) : Int) : Rat) * p) ∧ SzQ (y / (((Pm.cnt rs 1 f : Nat) : Int) : Rat) * q) ∧
  ∀ z H', Same H H' → RatAt CR H' z (bnd rs x y p q f) → Q z H'
theorem c_gfound {K : PySem.W.Frag} {C CR CM CG : Addr} {v : V} {f : Nat} {D : Addr} {rs : List (List Pm.Cut)} {x y p q : Rat} {H : Hp} {Q : VK} {E : XK} (h0 : GauAt K C CR CM CG H v D rs x y p q) (h1 : f ≤ 1000) (h2 : SzQ x) (h3 : SzQ y) (h4 : SzQ (((Pm.cnt rs 0 f : Nat) : Int) : Rat)) (h5 : SzQ (((Pm.cnt rs 1 f : Nat) : Int) : Rat)) (h6 : SzQ p) (h7 : SzQ q) (h8 : SzQ (x / (((Pm.cnt rs 0 f : Nat) : Int) : Rat))) (h9 : SzQ (y / (((Pm.cnt rs 1 f : Nat) : Int) : Rat))) (h10 : SzQ (x / (((Pm.cnt rs 0 f : Nat) : Int) : Rat) * p)) (h11 : SzQ (y / (((Pm.cnt rs 1 f : Nat) : Int) : Rat) * q)) (q : ∀ z H', Same H H' → RatAt CR H' z (bnd rs x y p q f) → Q z H') : sp_gfound K C CR CM CG [v, .int f] H Q E := ⟨_, _, _, _, _, _, _, _, rfl, h0, h1, h2, h3, h4, h5, h6, h7, h8, h9, h10, h11, q⟩
/-- the numbers of a gauge are not too long at f -/
def SzG (rs : List (List Pm.Cut)) (x y p q : Rat) (f : Nat) : Prop := SzQ x ∧ SzQ y ∧ SzQ (((Pm.cnt rs 0 f : Nat) : Int) : Rat) ∧ SzQ (((Pm.cnt rs 1 f : Nat) : Int) : Rat) ∧ SzQ p ∧ SzQ q ∧
  SzQ (x / (((Pm.cnt rs 0 f : Nat) : Int) : Rat)) ∧ SzQ (y / (((Pm.cnt rs 1 f : Nat) : Int) : Rat)) ∧ SzQ (x / (((Pm.cnt rs 0 f : Nat) : Int) : Rat) * p) ∧ SzQ (y / (((Pm.cnt rs 1 f : Nat) : Int) : Rat) * q)
def sp_gat (K : PySem.W.Frag) (C CR CM CG : Addr) : Sp := fun vs H Q _ => ∃ (v : V) (f : Nat) (D : Addr) (rs : List (List Pm.Cut)) (x y p q : Rat), vs = [v, .int f] ∧ GauAt K C CR CM CG H v D rs x y p q ∧ f ≤ 1000 ∧ SzG rs x y p q f ∧
  ∀ z H', Bd D H H' → GauAt K C CR CM CG H' v D rs x y p q → RatAt CR H' z (bnd rs x y p q f) → Q z H'
theorem c_gat {K : PySem.W.Frag} {C CR CM CG : Addr} {v : V} {f : Nat} {D : Addr} {rs : List (List Pm.Cut)} {x y p q : Rat} {H : Hp} {Q : VK} {E : XK} (h0 : GauAt K C CR CM CG H v D rs x y p q) (h1 : f ≤ 1000) (h2 : SzG rs x y p q f) (q : ∀ z H', Bd D H H' → GauAt K C CR CM CG H' v D rs x y p q → RatAt CR H' z (bnd rs x y p q f) → Q z H') : sp_gat K C CR CM CG [v, .int f] H Q E := ⟨_, _, _, _, _, _, _, _, rfl, h0, h1, h2, q⟩
def sp_ggreat (K : PySem.W.Frag) (C CR CM CG : Addr) : Sp := fun vs H Q _ => ∃ (v : V) (f : Nat) (D : Addr) (rs : List (List Pm.Cut)) (x y p q : Rat), vs = [v, .int f] ∧ GauAt K C CR CM CG H v D rs x y p q ∧ 1 ≤ f ∧ f ≤ 1000 ∧ SzG rs x y p q f ∧
  ∀ z H', Bd D H H' → GauAt K C CR CM CG H' v D rs x y p q → RatAt CR H' z (bnd rs x y p q f) → Q z H'
theorem c_ggreat {K : PySem.W.Frag} {C CR CM CG : Addr} {v : V} {f : Nat} {D : Addr} {rs : List (List Pm.Cut)} {x y p q : Rat} {H : Hp} {Q : VK} {E : XK} (h0 : GauAt K C CR CM CG H v D rs x y p q) (h1 : 1 ≤ f) (h2 : f ≤ 1000) (h3 : SzG rs x y p q f) (q : ∀ z H', Bd D H H' → GauAt K C CR CM CG H' v D rs x y p q → RatAt CR H' z (bnd rs x y p q f) → Q z H') : sp_ggreat K C CR CM CG [v, .int f] H Q E := ⟨_, _, _, _, _, _, _, _, rfl, h0, h1, h2, h3, q⟩
local macro_rules | `(tactic| tb_rel) => `(tactic| repeat (first
  | with_reducible assumption
  | with_reducible exact Dp.int _
  | with_reducible exact Dp.str _
  | with_reducible exact Dp.bl _
  | with_reducible exact Dp.non
  | (with_reducible apply SqT.of; with_reducible assumption)
  | (with_reducible apply SqL.of; with_reducible assumption)
  | (with_reducible apply up_dp; with_reducible assumption)
  | (with_reducible apply up_sqt; with_reducible assumption)
  | (with_reducible apply up_sql; with_reducible assumption)
  | (with_reducible apply up_get; with_reducible assumption)
  | (with_reducible apply up_pot; with_reducible assumption)
  | with_reducible exact Same.refl _
  | with_reducible exact Bu.refl _ _
  | (with_reducible apply up_same; with_reducible assumption)
  | (with_reducible apply up_bu; with_reducible assumption)
  | (with_reducible apply bu_bu; with_reducible assumption)
  | (with_reducible apply free_of; with_reducible assumption)
  | (with_reducible apply mi_fr; with_reducible assumption; (focus (tb_rel; done)))
  | (with_reducible apply mi_dp; with_reducible assumption)
  | (with_reducible apply mi_sqt; with_reducible assumption)
  | (with_reducible apply mi_sql; with_reducible assumption)
  | (with_reducible apply mi_gett; with_reducible assumption)
  | (with_reducible apply mi_getl; with_reducible assumption)
  | (with_reducible apply mi_pot; with_reducible assumption)
  | (with_reducible apply mi_refl; with_reducible assumption; (focus (with_unfolding_all exact rfl)))
  | (with_reducible apply up_mi; with_reducible assumption)
  | (with_reducible apply mi_mi; with_reducible assumption)
  | (with_reducible apply mi_bu; with_reducible assumption)
  | with_reducible exact num_int _
  | (with_reducible apply rat_of; with_reducible assumption)
  | (with_reducible apply num_rat; (focus (tb_rel; done)))
  | (with_reducible apply up_plan; with_reducible assumption)
  | (with_reducible apply bu_plan; with_reducible assumption; (focus (tb_rel; done)))
  | (with_reducible apply mi_plan; with_reducible assumption; (focus (lcg_src; done)))
  | (with_reducible apply up_rat; with_reducible assumption)
  | (with_reducible apply up_num; with_reducible assumption)
  | (with_reducible apply mi_rat; with_reducible assumption; (focus (lcg_src; done)))
  | (with_reducible apply mi_num; with_reducible assumption; (focus (lcg_src; done)))
  | (with_reducible apply bu_rat; with_reducible assumption; (focus (tb_rel; done)))
  | (with_reducible apply bu_num; with_reducible assumption; (focus (tb_rel; done)))
  | (with_reducible apply up_map; with_reducible assumption)
  | (with_reducible apply bd_dp; with_reducible assumption)
  | (with_reducible apply bd_dpa; with_reducible assumption)
  | (with_reducible apply bd_sqt; with_reducible assumption)
  | (with_reducible apply bd_sql; with_reducible assumption)
  | (with_reducible apply bd_gett; with_reducible assumption)
  | (with_reducible apply bd_getl; with_reducible assumption)
  | (with_reducible apply bd_geti; with_reducible assumption)
  | (with_reducible apply bd_pot; with_reducible assumption)
  | (with_reducible apply up_bd; with_reducible assumption)
  | (with_reducible apply bd_bd; with_reducible assumption)
  | (with_reducible apply bd_plan; with_reducible assumption)
  | (with_reducible apply bd_rat; with_reducible assumption)
  | (with_reducible apply bd_num; with_reducible assumption)
  | (with_reducible apply bd_map; with_reducible assumption)
  | (with_reducible apply bu_gett; with_reducible assumption; (focus (tb_rel; done)))
  | (with_reducible apply bu_geti; with_reducible assumption; (focus (tb_rel; done)))
  | (with_reducible apply bu_get; with_reducible assumption; (focus (tlg_ne; done)))
  | (with_reducible apply bu_sqt; with_reducible assumption; (focus (tb_rel; done)))
  | (with_reducible apply bu_sql; with_reducible assumption; (focus (tlg_ne; done)))
  | (with_reducible apply bu_dp; with_reducible assumption; (focus (tb_rel; done)); (focus (lcg_src; done)))
  | fail "up"))
local macro_rules | `(tactic| tlg_ne) => `(tactic| first
  | with_reducible assumption
  | (with_reducible apply pot_ne; with_reducible assumption; (focus (tb_rel; done)))
  | fail "ne")
local macro_rules | `(tactic| lcg_src) => `(tactic| first
  | with_reducible assumption
  | with_unfolding_all exact rfl
  | with_unfolding_all decide
  | with_unfolding_all exact Nat.ne_of_beq_eq_false rfl
  | (apply_assumption; done)
  | omega
  | (simp; done)
  | (simp; omega)
  | fail "sd")
local macro_rules | `(tactic| lcg_sub) => `(tactic| first
  | (unfold sizeLine; omega)
  | (simp only [List.length_cons, List.length_nil, List.length_append, List.length_map, List.length_replicate, List.length_take, List.length_drop]; unfold sizeLine; omega)
  | (simp; unfold sizeLine; omega)
  | fail "sz")
local macro_rules | `(tactic| nest_cls) => `(tactic| first
  | (tb_rel; done)
  | (with_reducible apply nmI; (focus (tb_rel; done)))
  | (with_reducible apply d_tup; (focus (tb_rel; done)); (focus (lsm_bools; done)))
  | (with_reducible apply d_lst; (focus (tb_rel; done)); (focus (lsm_bools; done)))
  | fail "dp")
local macro_rules | `(tactic| lsm_bools) => `(tactic| repeat (first
  | with_reducible exact DpAll.nil
  | with_reducible assumption
  | (with_reducible apply DpAll.cons; (focus (nest_cls; done)))
  | fail "dpa"))
local macro_rules | `(tactic| none_booked) => `(tactic| first | with_unfolding_all exact rfl | (with_reducible apply atI_nat; with_reducible assumption) | fail "ix")
local macro_rules | `(tactic| walk_at "go") => `(tactic| repeat (first
  | (focus (with_reducible refine go_var (v := ?_) ?_ ?_; rotate_left; (focus (with_unfolding_all exact rfl))))
  | with_reducible refine go_seq ?_
  | with_reducible refine go_cN ?_
  | with_reducible refine go_c ?_
  | with_reducible refine go_op ?_
  | with_reducible refine go_nil ?_
  | with_reducible refine go_cons ?_
  | with_reducible refine go_cb ?_
  | with_reducible refine go_call0 ?_
  | with_reducible refine go_asg ?_
  | (focus (with_reducible refine go_gname (σ' := ?_) ?_ ?_; rotate_left; (focus (simp only [List.set_cons_succ, List.set_cons_zero]; exact rfl))))
  | with_reducible refine go_par ?_
  | (focus (with_reducible refine go_par2 (σ' := ?_) ?_ ?_; rotate_left; (focus (simp only [List.set_cons_succ, List.set_cons_zero]; exact rfl))))
  | with_reducible refine go_ifs ?_
  | with_reducible refine go_test ?_
  | with_reducible refine go_tb ?_
  | with_reducible refine go_asb ?_
  | with_reducible refine go_asi ?_
  | with_reducible refine go_ret ?_
  | with_reducible refine go_retn ?_
  | with_reducible refine go_drop ?_
  | with_reducible refine go_next ?_
  | with_reducible refine go_and ?_
  | with_reducible refine go_or ?_
  | with_reducible refine go_not ?_
  | with_reducible refine go_andv ?_
  | with_reducible refine go_orv ?_
  | with_reducible refine go_notv ?_
  | with_reducible refine go_ife ?_
  | with_reducible refine go_chain ?_
  | with_reducible refine go_if1 ?_
  | with_reducible refine go_if0 ?_
  | with_reducible refine go_ifn1 ?_
  | with_reducible refine go_ifn0 ?_
  | (with_reducible apply go_ift; (focus (first | with_reducible rfl | with_reducible assumption | omega)))
  | (with_reducible apply go_ifnt; (focus (first | with_reducible rfl | with_reducible assumption | omega)))
  | (with_reducible apply go_iff; (focus (first | with_reducible assumption | omega)))
  | (with_reducible apply go_ifnf; (focus (first | with_reducible assumption | omega)))
  | with_reducible refine go_un ?_
  | with_reducible refine go_tup ?_
  | with_reducible refine go_lst ?_
  | (with_reducible apply go_newt; (focus (lcg_sub; done)); intros)
  | (with_reducible apply go_newl; (focus (lcg_sub; done)); intros)
  | with_reducible refine go_meth ?_
  | with_reducible refine go_for ?_
  | with_reducible refine go_lc ?_
  | with_reducible refine go_irng1 ?_
  | with_reducible refine go_irng2 ?_
  | with_reducible refine go_ilist ?_
  | with_reducible refine go_itup ?_
  | with_reducible refine go_izip ?_
  | with_reducible refine go_ienum ?_
  | (with_reducible apply go_rg1; (focus (lcg_src; done)))
  | (with_reducible apply go_rg2; (focus (lcg_src; done)); (focus (lcg_src; done)))
  | (with_reducible apply go_lsr; (focus (tb_rel; done)))
  | (with_reducible apply go_tpr; (focus (tb_rel; done)))
  | (with_reducible apply go_zpr; (focus (tb_rel; done)); (focus (tb_rel; done)))
  | (with_reducible apply go_zprT; (focus (tb_rel; done)); (focus (tb_rel; done)))
  | (with_reducible apply go_enrL; (focus (tb_rel; done)))
  | (with_reducible apply go_enrT; (focus (tb_rel; done)))
  | with_reducible refine go_prop ?_
  | with_reducible refine go_knr0 ?_
  | (with_reducible apply go_knr; (focus (with_unfolding_all exact rfl; done)); (focus (simp only [kSw2, kRev3, kId, List.nil_append, List.cons_append]; exact rfl)))
  | with_reducible refine go_mkn ?_
  | (with_reducible apply go_mkr; (focus (tb_rel; done)); (focus (with_unfolding_all exact rfl; done)))
  | with_reducible refine go_fld ?_
  | (with_reducible apply go_flr; (focus (tb_rel; done)); (focus (with_reducible assumption; done)); (focus (with_reducible assumption; done)); (focus (with_unfolding_all exact rfl; done)))
  | (with_reducible apply go_prr; (focus (tb_rel; done)))
  | (with_reducible apply go_mer; (focus (tb_rel; done)); (focus (with_unfolding_all exact rfl; done)))
  | with_reducible refine go_sfld ?_
  | (with_reducible apply go_sfr; (focus (tb_rel; done)); (focus (with_reducible assumption; done)); (focus (with_reducible assumption; done)); (focus (with_unfolding_all exact Nat.le_of_ble_eq_true rfl; done)); (focus (with_unfolding_all exact rfl; done)); intros)
  | with_reducible refine go_revt ?_
  | with_reducible refine go_make0 ?_
  | (focus (with_reducible refine go_aug (x := ?_) ?_ ?_; rotate_left; (focus (with_unfolding_all exact rfl))))
  | (focus (with_reducible refine go_augk (σ' := ?_) ?_ ?_; rotate_left; (focus (simp only [List.set_cons_succ, List.set_cons_zero]; exact rfl))))
  | with_reducible refine go_min2 ?_
  | with_reducible refine go_int1 ?_
  | with_reducible refine go_max2 ?_
  | with_reducible refine go_intB ?_
  | with_reducible refine go_absN ?_
  | with_reducible refine go_isN ?_
  | with_reducible refine go_notN ?_
  | (with_reducible apply go_rvt; (focus (tb_rel; done)); (focus (simp only [List.reverse_cons, List.reverse_nil, List.nil_append, List.cons_append]; exact rfl)); intros)
  | (with_reducible apply go_reprNm; (focus (tb_rel; done)); (focus (with_reducible assumption; done)))
  | (with_reducible apply go_reprPr; (focus (nest_cls; done)); (focus (lcg_src; done)); (focus (lcg_src; done)))
  | with_reducible refine go_sl ?_
  | with_reducible refine go_part ?_
  | with_reducible refine go_nopart ?_
  | (with_reducible apply go_gtup; (focus (tb_rel; done)); (focus (with_unfolding_all exact rfl; done)))
  | (with_reducible apply go_gunl; (focus (tb_rel; done)); (focus (with_unfolding_all exact rfl; done)))
  | with_reducible refine go_gcons ?_
  | with_reducible refine go_gnil ?_
  | with_reducible refine go_addN ?_
  | with_reducible refine go_ltN ?_
  | with_reducible refine go_leN ?_
  | with_reducible refine go_gtN ?_
  | with_reducible refine go_geN ?_
  | (with_reducible apply go_subN; (focus (omega; done)))
  | with_reducible refine go_rI0 ?_
  | (with_reducible apply go_mulN; (focus (omega; done)))
  | (with_reducible apply go_modN; (focus (omega; done)))
  | (with_reducible apply go_divN; (focus (omega; done)))
  | (with_reducible apply go_powN; (focus (with_unfolding_all decide; done)))
  | with_reducible refine go_rU ?_
  | with_reducible refine go_eqN ?_
  | with_reducible refine go_neN ?_
  | with_reducible refine go_isB ?_
  | with_reducible refine go_notB ?_
  | with_reducible refine go_eqS ?_
  | with_reducible refine go_neS ?_
  | with_reducible refine go_eqB ?_
  | with_reducible refine go_eqI ?_
  | with_reducible refine go_neI ?_
  | (with_reducible apply go_ixt; (focus (tb_rel; done)); (focus (none_booked; done)))
  | (with_reducible apply go_ixl; (focus (tb_rel; done)); (focus (none_booked; done)))
  | (with_reducible apply go_lent; (focus (tb_rel; done)))
  | (with_reducible apply go_lenNm; (focus (tb_rel; done)))
  | (with_reducible apply go_isiNm; (focus (tb_rel; done)))
  | (with_reducible apply go_lenl; (focus (tb_rel; done)))
  | (with_reducible apply go_catA; (focus (tb_rel; done)); (focus (tb_rel; done)); (focus (lcg_sub; done)); intros)
  | (with_reducible apply go_slaT; (focus (tb_rel; done)); intros)
  | (with_reducible apply go_slaD; (focus (tb_rel; done)); intros)
  | (with_reducible apply go_rep; (focus (tb_rel; done)); (focus (lcg_src; done)); intros)
  | (with_reducible apply go_tupofl; (focus (tb_rel; done)); intros)
  | (with_reducible apply go_sllT; (focus (tb_rel; done)); intros)
  | (with_reducible apply go_sllD; (focus (tb_rel; done)); intros)
  | (with_reducible apply go_cat; (focus (tb_rel; done)); (focus (tb_rel; done)); (focus (lcg_sub; done)); intros)
  | (with_reducible apply go_eqP; with_reducible assumption; (focus (tb_rel; done)); (focus (tb_rel; done)))
  | (with_reducible apply go_neP; with_reducible assumption; (focus (tb_rel; done)); (focus (tb_rel; done)))
  | (with_reducible apply go_mkrat; with_reducible assumption; with_reducible assumption; intros)
  | (with_reducible apply go_mkrat1; intros)
  | (with_reducible apply go_merR; (focus (tb_rel; done)); (focus decide); (focus decide))
  | (with_reducible apply go_prR; (focus (tb_rel; done)))
  | (with_reducible apply go_mep; (focus (tb_rel; done)); (focus decide); (focus decide); (focus decide))
  | (with_reducible apply c_gat; (focus (tb_rel; done)); (focus (lcg_src; done)); (focus (lcg_src; done)); intros)
  | (with_reducible apply c_gfound; (focus (tb_rel; done)); (focus (lcg_src; done)); (focus (lcg_src; done)); (focus (lcg_src; done)); (focus (lcg_src; done)); (focus (lcg_src; done)); (focus (lcg_src; done)); (focus (lcg_src; done)); (focus (lcg_src; done)); (focus (lcg_src; done)); (focus (lcg_src; done)); (focus (lcg_src; done)); intros)
  | (with_reducible apply c_ggreat; (focus (tb_rel; done)); (focus (lcg_src; done)); (focus (lcg_src; done)); (focus (lcg_src; done)); intros)
  | (with_reducible apply c_msides; (focus (tb_rel; done)); (focus (lcg_src; done)); (focus (lcg_src; done)); (focus (lcg_src; done)); (focus (lcg_src; done)); (focus (lcg_src; done)); intros)
  | (with_reducible apply c_rbelow; (focus (tb_rel; done)); (focus (tb_rel; done)); (focus (lcg_src; done)); (focus (lcg_src; done)); intros)
  | (with_reducible apply c_rmul; (focus (tb_rel; done)); (focus (tb_rel; done)); (focus (lcg_src; done)); (focus (lcg_src; done)); intros)
  | (with_reducible apply c_wantfine; (focus (lcg_src; done)); intros)
  | with_reducible refine go_dget ?_
  | with_reducible refine go_dgr ?_
  | with_reducible refine go_dnotin ?_
  | with_reducible refine go_dnr ?_
  | with_reducible refine go_dput ?_
  | with_reducible refine go_dpr ?_
  | fail "go"))
theorem ok_gfound {f : Addr} {fd : FuncData} (F : Df K "bound_found" "Gauge.bound_found" s_gfound [] f fd) (B : Blt mg) (GR : RtG K mg CR) (GG : GaG K mg CG) (cMs : Me P w K mg base 6 CM "sides" (sp_msides K C CR CM) []) (cMul : Op3 P w K mg base 5 CR "__mul__" (sp_rmul CR)) (cLt : Me P w K mg base 5 CR "is_below" (sp_rbelow CR) []) : FnOk P w K mg base CX0 7 f fd ["self", "f"] (sp_gfound K C CR CM CG) := by
  refine dfOk F sc_gfound (fun vs H Q E h => ?_) (fun cdv A outer s H vs Q E hr h => ?_)
  · obtain ⟨v, f, D, rs, x, y, p, q, rfl, _⟩ := h
    rfl
  · obtain ⟨v, f, D, rs, x, y, p, q, rfl, hg, hf, s1, s2, s3, s4, s5, s6, s7, s8, s9, s10, k⟩ := h
    obtain ⟨a, dx, m, t, kd, sd, b1, b2, kvs, rfl, ea, hm, ht, h1, h2, hD, hl, hv⟩ := hg.ex
    have cl := GG.I.cl
    have nA := GG.nA
    have nR := GG.nR
    refine ⟨_, (pss_cons (ps_asg (pe_lc (own := [("side", 4), ("reach", 5)]) (by rfl) sc_gfound.nd (pi_zipA' (by rfl) B.zip (pa_cons (pe_me cMs hr (by decide) (pe_fld' (pv 0) rfl) (pa_cons (pv 1) pa_nil)) (pa_cons (pe_fld' (pv 0) rfl) pa_nil))) (blkOk_by (own := [("side", 4), ("reach", 5)]) (N := ["self", "f", "east", "north", "side", "reach"]) (sc := defScope s_gfound) (by decide +kernel)) (fun _ _ _ _ _ => (pg_tup' 2 (pgs_cons (pg_name (i := 4) sc_gfound.nd rfl (Or.inl rfl)) (pgs_cons (pg_name (i := 5) sc_gfound.nd rfl (Or.inl rfl)) pgs_nil)))) (fun _ _ _ _ _ => pts_nil) (fun _ _ _ _ _ => (pe_op (op_binO' cMul hr (by decide)) (pv 4) (pv 5)))) (pg_unl' 2 (pgs_cons (pg_name (i := 2) sc_gfound.nd rfl (Or.inl rfl)) (pgs_cons (pg_name (i := 3) sc_gfound.nd rfl (Or.inl rfl)) pgs_nil))))
  (pss_one (ps_ret (pe_ifExp (pt_val (pe_me cLt hr (by decide) (pv 2) (pa_cons (pv 3) pa_nil))) (pv 2) (pv 3))))), ?_⟩
    refine go_start (σ := [some _, some _, none, none, none, none]) rfl ?_
    walk_at "go"
    refine go_meM hm (by decide) (by decide) (by decide) ?_
    walk_at "go"
    rename_i t2 c1 c2 H2 z2 e2 g1 g2
    have ht2 : H2 t = some (.tup [b1, b2]) := z2 _ _ ht
    have k1 : RatAt CR H2 b1 p := up_rat z2 h1
    have k2 : RatAt CR H2 b2 q := up_rat z2 h2
    refine lcObj (walk_zipT (xs := [c1, c2]) (ys := [b1, b2]) (n := 2) rfl) (fun i z H => RatAt CR H z (if i = 0 then x / (((Pm.cnt rs 0 f : Nat) : Int) : Rat) * p else y / (((Pm.cnt rs 1 f : Nat) : Int) : Rat) * q)) (by decide) (fun i y H1 H2 s h => up_rat s h) (fun i y H1 D zs o e h => rat_lst e h) (fun H' s => ⟨.inl (.inl (s _ _ e2)), .inl (.inl (s _ _ ht2))⟩) (fun i u H3 H4 Q' hi z3 hy hq => ?_) (fun D2 H3 ys nD z3 eD yl hys => ?_) gTup2_mono
    · obtain ⟨T, x', y', rfl, hT, rfl, q1, q2⟩ := hy
      have zT : Same H3 (upd H3 T (.tup [x', y'])) := same_new hT
      refine ⟨T, _, rfl, .inl (.inl upd_same), rfl, _, _, rfl, _, _, rfl, rfl, rfl, ?_⟩
      have mul : ∀ {r1 r2 : Rat}, RatAt CR H2 x' r1 → RatAt CR H2 y' r2 → SzQ r1 → SzQ r2 → (∀ z H4, Same H3 H4 → RatAt CR H4 z (r1 * r2) → Q' z H4) → rBinO K CR (sp_rmul CR) x' y' (upd H3 T (.tup [x', y'])) Q' := by
        intro r1 r2 m1 m2 w1 w2 hq
        have m1' := up_rat (z3.trans zT) m1
        have m2' := up_rat (z3.trans zT) m2
        obtain ⟨d1, dx1, rfl, f1⟩ := m1'
        obtain ⟨d2, dx2, rfl, f2⟩ := m2'
        exact ⟨d1, dx1, _, rfl, f1, GR.I.ty f2, _, _, r1, r2, rfl, rat_of f1, num_rat (rat_of f2), w1, w2, fun b dy H5 z5 e5 => hq _ _ (zT.trans z5) (rat_of e5)⟩
      rcases (by omega : i = 0 ∨ i = 1) with rfl | rfl
      · cases Option.some.inj q1
        cases Option.some.inj q2
        exact ⟨_, rfl, _, rfl, mul g1 k1 s7 s5 hq⟩
      · cases Option.some.inj q1
        cases Option.some.inj q2
        exact ⟨_, rfl, _, rfl, mul g2 k2 s8 s6 hq⟩
    · obtain ⟨y1, y2, rfl⟩ : ∃ y1 y2, ys = [y1, y2] := by
        match ys, yl with
        | [y1, y2], _ => exact ⟨y1, y2, rfl⟩
      have r1 : RatAt CR H3 y1 (x / (((Pm.cnt rs 0 f : Nat) : Int) : Rat) * p) := hys 0 y1 rfl
      have r2 : RatAt CR H3 y2 (y / (((Pm.cnt rs 1 f : Nat) : Int) : Rat) * q) := hys 1 y2 rfl
      walk_at "go"
      rename_i H5 z5
      unfold bnd at k
      by_cases c : x / (((Pm.cnt rs 0 f : Nat) : Int) : Rat) * p < y / (((Pm.cnt rs 1 f : Nat) : Int) : Rat) * q
      · rw [if_pos c] at k
        rw [if_pos (decide_eq_true c)]
        walk_at "go"
        exact k _ _ ((z2.trans z3).trans z5) (up_rat z5 r1)
      · rw [if_neg c] at k
        rw [if_neg (fun z => c (of_decide_eq_true z))]
        walk_at "go"
        exact k _ _ ((z2.trans z3).trans z5) (up_rat z5 r2)
theorem ok_gat {f : Addr} {fd : FuncData} (F : Df K "bound_at" "Gauge.bound_at" s_gat [] f fd) (GG : GaG K mg CG) (cBf : Me P w K mg base 7 CG "bound_found" (sp_gfound K C CR CM CG) []) : FnOk P w K mg base CX0 8 f fd ["self", "f"] (sp_gat K C CR CM CG) := by
  refine dfOk F sc_gat (fun vs H Q E h => ?_) (fun cdv A outer s H vs Q E hr h => ?_)
  · obtain ⟨v, f, D, rs, x, y, p, q, rfl, _⟩ := h
    rfl
  · obtain ⟨v, f, D, rs, x, y, p, q, rfl, hg, hf, ⟨s1, s2, s3, s4, s5, s6, s7, s8, s9, s10⟩, k⟩ := h
    obtain ⟨a, dx, m, t, kd, sd, b1, b2, kvs, rfl, ea, hm, ht, h1, h2, hD, hl, hv⟩ := hg.ex
    have cl := GG.I.cl
    have nB := GG.nB
    refine ⟨_, (pss_cons (ps_if (pt_cmp (pc_dnotin (units1 hr) (pv 1) (pe_fld' (pv 0) rfl)))
  (pss_one (ps_dput (units1 hr) (pe_fld' (pv 0) rfl) (pv 1) (pe_me cBf hr (by decide) (pv 0) (pa_cons (pv 1) pa_nil)) (by rfl)))
  pss_nil)
  (pss_one (ps_ret (pe_dget (units1 hr) (pe_fld' (pv 0) rfl) (pv 1) (fun _ _ => rfl))))), ?_⟩
    refine go_start (σ := [some _, some _]) rfl ?_
    walk_at "go"
    refine ⟨D, _, rfl, dg_int hD, ?_⟩
    cases hz : valV kvs (.inl (f : Int)) with
    | some z =>
      walk_at "go"
      rw [if_neg (by simp)]
      walk_at "go"
      exact ⟨D, z, rfl, by have := dg_int (i := (f : Int)) hD; rw [hz] at this; exact this, k z H (bd_refl hD) hg (hv f z hz)⟩
    | none =>
      walk_at "go"
      rw [if_pos (by simp)]
      walk_at "go"
      rename_i z H1 z1 hr1
      have hD1 := z1 _ _ hD
      have ll := hl.len
      refine ⟨D, _, rfl, dp_int hD1 (by unfold sizeLine; omega), ?_⟩
      have bd : Bd D H1 (upd H1 D (.dK (putK kvs (.inl (f : Int)) z))) := bd_set hD1
      have eD : upd H1 D (.dK (putK kvs (.inl (f : Int)) z)) D = some (.dK (putK kvs (.inl (f : Int)) z)) := upd_same
      have ea1 := bd_geti bd (z1 _ _ ea)
      generalize upd H1 D (.dK (putK kvs (.inl (f : Int)) z)) = H2 at bd eD ea1 ⊢
      walk_at "go"
      have gz : valV (putK kvs (.inl (f : Int)) z) (.inl (f : Int)) = some z := by rw [valV_put, if_pos rfl]
      refine ⟨D, z, rfl, by have := dg_int (i := (f : Int)) eD; rw [gz] at this; exact this, k z H2 ⟨⟨_, hD⟩, (Bu.of z1 D).trans bd.2⟩ ⟨⟨a, dx, m, t, kd, sd, b1, b2, _, rfl, ea1, bd_map bd (up_map z1 hm), bd_gett bd (z1 _ _ ht), bd_rat bd (up_rat z1 h1), bd_rat bd (up_rat z1 h2), eD, hl.put (by omega) hz, fun g u hu => ?_⟩⟩ (bd_rat bd hr1)⟩
      rw [valV_put] at hu
      split at hu
      · next e =>
        obtain rfl := Option.some.inj hu
        have : g = f := Int.ofNat.inj (Sum.inl.inj e)
        subst this
        exact bd_rat bd hr1
      · exact bd_rat bd (up_rat z1 (hv g u hu))
theorem ok_ggreat {f : Addr} {fd : FuncData} (F : Df K "greatest" "Gauge.greatest" s_ggreat [] f fd) (cWf : Ca P w K mg base 3 "want_fineness" sp_wantfine []) (cBa : Me P w K mg base 8 CG "bound_at" (sp_gat K C CR CM CG) []) : FnOk P w K mg base CX0 9 f fd ["self", "f"] (sp_ggreat K C CR CM CG) := by
  refine dfOk F sc_ggreat (fun vs H Q E h => ?_) (fun cdv A outer s H vs Q E hr h => ?_)
  · obtain ⟨v, f, D, rs, x, y, p, q, rfl, _⟩ := h
    rfl
  · obtain ⟨v, f, D, rs, x, y, p, q, rfl, hg, f0, hf, hs, k⟩ := h
    obtain ⟨a, dx, m, t, kd, sd, b1, b2, kvs, rfl, ea, _⟩ := hg.ex
    have f1 : f ≠ 0 := by omega
    refine ⟨_, (pss_cons (ps_expr (pe_ca cWf hr (by decide) (by rfl) (pa_cons (pv 1) pa_nil)))
  (pss_cons (ps_if (pt_cmpR op_eq (pv 1) pe_int (nomark _))
  pss_never
  pss_nil)
  (pss_one (ps_ret (pe_me cBa hr (by decide) (pv 0) (pa_cons (pv 1) pa_nil)))))), ?_⟩
    refine go_start (σ := [some _, some _]) rfl ?_
    walk_at "go"
    exact k _ _ (by assumption) (by assumption) (by assumption)
end
end T
set_option Elab.async false
set_option maxRecDepth 100000
set_option maxHeartbeats 4000000
namespace T
open PySem L2 Mv
section
variable {P : Program} {w : World} {K : PySem.W.Frag} {mg : Str → Option Value} {base : Heap} {C AX CR CM CG KD : Addr}
theorem go_dnew {σ : L2.St} {H : Hp} {Q : VK} (q : ∀ p H', H p = none → Same H H' → H' p = some (.dK []) → Q (.ref p) H') : tDNewK σ H Q := fun p hp => q p _ hp (same_new hp) upd_same
def sp_ginit (K : PySem.W.Frag) (C CR CM CG : Addr) : Sp := fun vs H Q _ => ∃ (o dx : Addr) (m e n : V) (kd : Str) (rs : List (List Pm.Cut)) (x y p q : Rat), vs = [.ref o, m, e, n, .str kd] ∧ H o = some (.ins CG dx []) ∧ MapAt K C CR CM H m rs x y ∧ NumAt CR H e p ∧ SzQ p ∧ 0 < p ∧ p ≤ 1 ∧ NumAt CR H n q ∧ SzQ q ∧ 0 < q ∧ q ≤ 1 ∧ (kd = "box" ∨ kd = "sum") ∧
  ∀ D H', H D = none → Bu o H H' → GauAt K C CR CM CG H' (.ref o) D rs x y p q → Q .non H'
theorem c_ginit {K : PySem.W.Frag} {C CR CM CG : Addr} {o dx : Addr} {m e n : V} {kd : Str} {rs : List (List Pm.Cut)} {x y p q : Rat} {H : Hp} {Q : VK} {E : XK} (h0 : H o = some (.ins CG dx [])) (h1 : MapAt K C CR CM H m rs x y) (h2 : NumAt CR H e p) (h3 : SzQ p) (h4 : 0 < p) (h5 : p ≤ 1) (h6 : NumAt CR H n q) (h7 : SzQ q) (h8 : 0 < q) (h9 : q ≤ 1) (h10 : (kd = "box" ∨ kd = "sum")) (q : ∀ D H', H D = none → Bu o H H' → GauAt K C CR CM CG H' (.ref o) D rs x y p q → Q .non H') : sp_ginit K C CR CM CG [.ref o, m, e, n, .str kd] H Q E := ⟨_, _, _, _, _, _, _, _, _, _, _, rfl, h0, h1, h2, h3, h4, h5, h6, h7, h8, h9, h10, q⟩
local macro_rules | `(tactic| tb_rel) => `(tactic| repeat (first
  | with_reducible assumption
  | with_reducible exact Dp.int _
  | with_reducible exact Dp.str _
  | with_reducible exact Dp.bl _
  | with_reducible exact Dp.non
  | (with_reducible apply SqT.of; with_reducible assumption)
  | (with_reducible apply SqL.of; with_reducible assumption)
  | (with_reducible apply up_dp; with_reducible assumption)
  | (with_reducible apply up_sqt; with_reducible assumption)
  | (with_reducible apply up_sql; with_reducible assumption)
  | (with_reducible apply up_get; with_reducible assumption)
  | (with_reducible apply up_pot; with_reducible assumption)
  | with_reducible exact Same.refl _
  | with_reducible exact Bu.refl _ _
  | (with_reducible apply up_same; with_reducible assumption)
  | (with_reducible apply up_bu; with_reducible assumption)
  | (with_reducible apply bu_bu; with_reducible assumption)
  | (with_reducible apply free_of; with_reducible assumption)
  | (with_reducible apply mi_fr; with_reducible assumption; (focus (tb_rel; done)))
  | (with_reducible apply mi_dp; with_reducible assumption)
  | (with_reducible apply mi_sqt; with_reducible assumption)
  | (with_reducible apply mi_sql; with_reducible assumption)
  | (with_reducible apply mi_gett; with_reducible assumption)
  | (with_reducible apply mi_getl; with_reducible assumption)
  | (with_reducible apply mi_pot; with_reducible assumption)
  | (with_reducible apply mi_refl; with_reducible assumption; (focus (with_unfolding_all exact rfl)))
  | (with_reducible apply up_mi; with_reducible assumption)
  | (with_reducible apply mi_mi; with_reducible assumption)
  | (with_reducible apply mi_bu; with_reducible assumption)
  | with_reducible exact num_int _
  | (with_reducible apply rat_of; with_reducible assumption)
  | (with_reducible apply num_rat; (focus (tb_rel; done)))
  | (with_reducible apply up_plan; with_reducible assumption)
  | (with_reducible apply bu_plan; with_reducible assumption; (focus (tb_rel; done)))
  | (with_reducible apply mi_plan; with_reducible assumption; (focus (lcg_src; done)))
  | (with_reducible apply up_rat; with_reducible assumption)
  | (with_reducible apply up_num; with_reducible assumption)
  | (with_reducible apply mi_rat; with_reducible assumption; (focus (lcg_src; done)))
  | (with_reducible apply mi_num; with_reducible assumption; (focus (lcg_src; done)))
  | (with_reducible apply bu_rat; with_reducible assumption; (focus (tb_rel; done)))
  | (with_reducible apply bu_num; with_reducible assumption; (focus (tb_rel; done)))
  | (with_reducible apply up_map; with_reducible assumption)
  | (with_reducible apply bd_dp; with_reducible assumption)
  | (with_reducible apply bd_dpa; with_reducible assumption)
  | (with_reducible apply bd_sqt; with_reducible assumption)
  | (with_reducible apply bd_sql; with_reducible assumption)
  | (with_reducible apply bd_gett; with_reducible assumption)
  | (with_reducible apply bd_getl; with_reducible assumption)
  | (with_reducible apply bd_geti; with_reducible assumption)
  | (with_reducible apply bd_pot; with_reducible assumption)
  | (with_reducible apply up_bd; with_reducible assumption)
  | (with_reducible apply bd_bd; with_reducible assumption)
  | (with_reducible apply bd_plan; with_reducible assumption)
  | (with_reducible apply bd_rat; with_reducible assumption)
  | (with_reducible apply bd_num; with_reducible assumption)
  | (with_reducible apply bd_map; with_reducible assumption)
  | (with_reducible apply bu_gett; with_reducible assumption; (focus (tb_rel; done)))
  | (with_reducible apply bu_geti; with_reducible assumption; (focus (tb_rel; done)))
  | (with_reducible apply bu_get; with_reducible assumption; (focus (tlg_ne; done)))
  | (with_reducible apply bu_sqt; with_reducible assumption; (focus (tb_rel; done)))
  | (with_reducible apply bu_sql; with_reducible assumption; (focus (tlg_ne; done)))
  | (with_reducible apply bu_dp; with_reducible assumption; (focus (tb_rel; done)); (focus (lcg_src; done)))
  | fail "up"))
local macro_rules | `(tactic| tlg_ne) => `(tactic| first
  | with_reducible assumption
  | (with_reducible apply pot_ne; with_reducible assumption; (focus (tb_rel; done)))
  | fail "ne")
local macro_rules | `(tactic| lcg_src) => `(tactic| first
  | with_reducible assumption
  | with_unfolding_all exact rfl
  | with_unfolding_all decide
  | with_unfolding_all exact Nat.ne_of_beq_eq_false rfl
  | (apply_assumption; done)
  | omega
  | (simp; done)
  | (simp; omega)
  | fail "sd")
local macro_rules | `(tactic| lcg_sub) => `(tactic| first
  | (unfold sizeLine; omega)
  | (simp only [List.length_cons, List.length_nil, List.length_append, List.length_map, List.length_replicate, List.length_take, List.length_drop]; unfold sizeLine; omega)
  | (simp; unfold sizeLine; omega)
  | fail "sz")
local macro_rules | `(tactic| nest_cls) => `(tactic| first
  | (tb_rel; done)
  | (with_reducible apply nmI; (focus (tb_rel; done)))
  | (with_reducible apply d_tup; (focus (tb_rel; done)); (focus (lsm_bools; done)))
  | (with_reducible apply d_lst; (focus (tb_rel; done)); (focus (lsm_bools; done)))
  | fail "dp")
local macro_rules | `(tactic| lsm_bools) => `(tactic| repeat (first
  | with_reducible exact DpAll.nil
  | with_reducible assumption
  | (with_reducible apply DpAll.cons; (focus (nest_cls; done)))
  | fail "dpa"))
local macro_rules | `(tactic| none_booked) => `(tactic| first | with_unfolding_all exact rfl | (with_reducible apply atI_nat; with_reducible assumption) | fail "ix")
local macro_rules | `(tactic| walk_at "go") => `(tactic| repeat (first
  | (focus (with_reducible refine go_var (v := ?_) ?_ ?_; rotate_left; (focus (with_unfolding_all exact rfl))))
  | with_reducible refine go_seq ?_
  | with_reducible refine go_cN ?_
  | with_reducible refine go_c ?_
  | with_reducible refine go_op ?_
  | with_reducible refine go_nil ?_
  | with_reducible refine go_cons ?_
  | with_reducible refine go_cb ?_
  | with_reducible refine go_call0 ?_
  | with_reducible refine go_asg ?_
  | (focus (with_reducible refine go_gname (σ' := ?_) ?_ ?_; rotate_left; (focus (simp only [List.set_cons_succ, List.set_cons_zero]; exact rfl))))
  | with_reducible refine go_par ?_
  | (focus (with_reducible refine go_par2 (σ' := ?_) ?_ ?_; rotate_left; (focus (simp only [List.set_cons_succ, List.set_cons_zero]; exact rfl))))
  | with_reducible refine go_ifs ?_
  | with_reducible refine go_test ?_
  | with_reducible refine go_tb ?_
  | with_reducible refine go_asb ?_
  | with_reducible refine go_asi ?_
  | with_reducible refine go_ret ?_
  | with_reducible refine go_retn ?_
  | with_reducible refine go_drop ?_
  | with_reducible refine go_next ?_
  | with_reducible refine go_and ?_
  | with_reducible refine go_or ?_
  | with_reducible refine go_not ?_
  | with_reducible refine go_andv ?_
  | with_reducible refine go_orv ?_
  | with_reducible refine go_notv ?_
  | with_reducible refine go_ife ?_
  | with_reducible refine go_chain ?_
  | with_reducible refine go_if1 ?_
  | with_reducible refine go_if0 ?_
  | with_reducible refine go_ifn1 ?_
  | with_reducible refine go_ifn0 ?_
  | (with_reducible apply go_ift; (focus (first | with_reducible rfl | with_reducible assumption | omega)))
  | (with_reducible apply go_ifnt; (focus (first | with_reducible rfl | with_reducible assumption | omega)))
  | (with_reducible apply go_iff; (focus (first | with_reducible assumption | omega)))
  | (with_reducible apply go_ifnf; (focus (first | with_reducible assumption | omega)))
  | with_reducible refine go_un ?_
  | with_reducible refine go_tup ?_
  | with_reducible refine go_lst ?_
  | (with_reducible apply go_newt; (focus (lcg_sub; done)); intros)
  | (with_reducible apply go_newl; (focus (lcg_sub; done)); intros)
  | with_reducible refine go_meth ?_
  | with_reducible refine go_for ?_
  | with_reducible refine go_lc ?_
  | with_reducible refine go_irng1 ?_
  | with_reducible refine go_irng2 ?_
  | with_reducible refine go_ilist ?_
  | with_reducible refine go_itup ?_
  | with_reducible refine go_izip ?_
  | with_reducible refine go_ienum ?_
  | (with_reducible apply go_rg1; (focus (lcg_src; done)))
  | (with_reducible apply go_rg2; (focus (lcg_src; done)); (focus (lcg_src; done)))
  | (with_reducible apply go_lsr; (focus (tb_rel; done)))
  | (with_reducible apply go_tpr; (focus (tb_rel; done)))
  | (with_reducible apply go_zpr; (focus (tb_rel; done)); (focus (tb_rel; done)))
  | (with_reducible apply go_zprT; (focus (tb_rel; done)); (focus (tb_rel; done)))
  | (with_reducible apply go_enrL; (focus (tb_rel; done)))
  | (with_reducible apply go_enrT; (focus (tb_rel; done)))
  | with_reducible refine go_prop ?_
  | with_reducible refine go_knr0 ?_
  | (with_reducible apply go_knr; (focus (with_unfolding_all exact rfl; done)); (focus (simp only [kSw2, kRev3, kId, List.nil_append, List.cons_append]; exact rfl)))
  | with_reducible refine go_mkn ?_
  | (with_reducible apply go_mkr; (focus (tb_rel; done)); (focus (with_unfolding_all exact rfl; done)))
  | with_reducible refine go_fld ?_
  | (with_reducible apply go_flr; (focus (tb_rel; done)); (focus (with_reducible assumption; done)); (focus (with_reducible assumption; done)); (focus (with_unfolding_all exact rfl; done)))
  | (with_reducible apply go_prr; (focus (tb_rel; done)))
  | (with_reducible apply go_mer; (focus (tb_rel; done)); (focus (with_unfolding_all exact rfl; done)))
  | with_reducible refine go_sfld ?_
  | (with_reducible apply go_sfr; (focus (tb_rel; done)); (focus (with_reducible assumption; done)); (focus (with_reducible assumption; done)); (focus (with_unfolding_all exact Nat.le_of_ble_eq_true rfl; done)); (focus (with_unfolding_all exact rfl; done)); intros)
  | with_reducible refine go_revt ?_
  | with_reducible refine go_make0 ?_
  | (focus (with_reducible refine go_aug (x := ?_) ?_ ?_; rotate_left; (focus (with_unfolding_all exact rfl))))
  | (focus (with_reducible refine go_augk (σ' := ?_) ?_ ?_; rotate_left; (focus (simp only [List.set_cons_succ, List.set_cons_zero]; exact rfl))))
  | with_reducible refine go_min2 ?_
  | with_reducible refine go_int1 ?_
  | with_reducible refine go_max2 ?_
  | with_reducible refine go_intB ?_
  | with_reducible refine go_absN ?_
  | with_reducible refine go_isN ?_
  | with_reducible refine go_notN ?_
  | (with_reducible apply go_rvt; (focus (tb_rel; done)); (focus (simp only [List.reverse_cons, List.reverse_nil, List.nil_append, List.cons_append]; exact rfl)); intros)
  | (with_reducible apply go_reprNm; (focus (tb_rel; done)); (focus (with_reducible assumption; done)))
  | (with_reducible apply go_reprPr; (focus (nest_cls; done)); (focus (lcg_src; done)); (focus (lcg_src; done)))
  | with_reducible refine go_sl ?_
  | with_reducible refine go_part ?_
  | with_reducible refine go_nopart ?_
  | (with_reducible apply go_gtup; (focus (tb_rel; done)); (focus (with_unfolding_all exact rfl; done)))
  | (with_reducible apply go_gunl; (focus (tb_rel; done)); (focus (with_unfolding_all exact rfl; done)))
  | with_reducible refine go_gcons ?_
  | with_reducible refine go_gnil ?_
  | with_reducible refine go_addN ?_
  | with_reducible refine go_ltN ?_
  | with_reducible refine go_leN ?_
  | with_reducible refine go_gtN ?_
  | with_reducible refine go_geN ?_
  | (with_reducible apply go_subN; (focus (omega; done)))
  | with_reducible refine go_rI0 ?_
  | (with_reducible apply go_mulN; (focus (omega; done)))
  | (with_reducible apply go_modN; (focus (omega; done)))
  | (with_reducible apply go_divN; (focus (omega; done)))
  | (with_reducible apply go_powN; (focus (with_unfolding_all decide; done)))
  | with_reducible refine go_rU ?_
  | with_reducible refine go_eqN ?_
  | with_reducible refine go_neN ?_
  | with_reducible refine go_isB ?_
  | with_reducible refine go_notB ?_
  | with_reducible refine go_eqS ?_
  | with_reducible refine go_neS ?_
  | with_reducible refine go_eqB ?_
  | with_reducible refine go_eqI ?_
  | with_reducible refine go_neI ?_
  | (with_reducible apply go_ixt; (focus (tb_rel; done)); (focus (none_booked; done)))
  | (with_reducible apply go_ixl; (focus (tb_rel; done)); (focus (none_booked; done)))
  | (with_reducible apply go_lent; (focus (tb_rel; done)))
  | (with_reducible apply go_lenNm; (focus (tb_rel; done)))
  | (with_reducible apply go_isiNm; (focus (tb_rel; done)))
  | (with_reducible apply go_lenl; (focus (tb_rel; done)))
  | (with_reducible apply go_catA; (focus (tb_rel; done)); (focus (tb_rel; done)); (focus (lcg_sub; done)); intros)
  | (with_reducible apply go_slaT; (focus (tb_rel; done)); intros)
  | (with_reducible apply go_slaD; (focus (tb_rel; done)); intros)
  | (with_reducible apply go_rep; (focus (tb_rel; done)); (focus (lcg_src; done)); intros)
  | (with_reducible apply go_tupofl; (focus (tb_rel; done)); intros)
  | (with_reducible apply go_sllT; (focus (tb_rel; done)); intros)
  | (with_reducible apply go_sllD; (focus (tb_rel; done)); intros)
  | (with_reducible apply go_cat; (focus (tb_rel; done)); (focus (tb_rel; done)); (focus (lcg_sub; done)); intros)
  | (with_reducible apply go_eqP; with_reducible assumption; (focus (tb_rel; done)); (focus (tb_rel; done)))
  | (with_reducible apply go_neP; with_reducible assumption; (focus (tb_rel; done)); (focus (tb_rel; done)))
  | (with_reducible apply go_mkrat; with_reducible assumption; with_reducible assumption; intros)
  | (with_reducible apply go_mkrat1; intros)
  | (with_reducible apply go_merR; (focus (tb_rel; done)); (focus decide); (focus decide))
  | (with_reducible apply go_prR; (focus (tb_rel; done)))
  | (with_reducible apply go_mep; (focus (tb_rel; done)); (focus decide); (focus decide); (focus decide))
  | (with_reducible apply c_asratio; (focus (tb_rel; done)); intros)
  | (with_reducible apply c_ginit; (focus (tb_rel; done)); (focus (tb_rel; done)); (focus (tb_rel; done)); (focus (lcg_src; done)); (focus (lcg_src; done)); (focus (lcg_src; done)); (focus (tb_rel; done)); (focus (lcg_src; done)); (focus (lcg_src; done)); (focus (lcg_src; done)); (focus (lcg_src; done)); intros)
  | (with_reducible apply c_isreach; (focus (tb_rel; done)); (focus (lcg_src; done)); (focus (lcg_src; done)); (focus (lcg_src; done)); intros)
  | (with_reducible apply c_wantkind; (focus (lcg_src; done)); intros)
  | (with_reducible apply c_wantmap; (focus (tb_rel; done)); intros)
  | with_reducible refine go_dget ?_
  | with_reducible refine go_dgr ?_
  | with_reducible refine go_dnotin ?_
  | with_reducible refine go_dnr ?_
  | with_reducible refine go_dput ?_
  | with_reducible refine go_dpr ?_
  | fail "go"))
theorem ok_ginit {f : Addr} {fd : FuncData} (F : Df K "__init__" "Gauge.__init__" s_ginit [] f fd) (GG : GaG K mg CG) (cWm : Ca P w K mg base 1 "want_map" (sp_wantmap K C CR CM) []) (cIr : Ca P w K mg base 6 "is_reach" (sp_isreach CR) []) (cWk : Ca P w K mg base 1 "want_kind" sp_wantkind []) (cAs : Ca P w K mg base 4 "as_ratio" (sp_asratio CR) []) : FnOk P w K mg base CX0 7 f fd ["self", "area", "east", "north", "kind"] (sp_ginit K C CR CM CG) := by
  refine dfOk F sc_ginit (fun vs H Q E h => ?_) (fun cdv A outer s H vs Q E hr h => ?_)
  · obtain ⟨o, dx, m, e, n, kd, rs, x, y, p, q, rfl, _⟩ := h
    rfl
  · obtain ⟨o, dx, m, e, n, kd, rs, x, y, p, q, rfl, eo, hm, he, s1, p0, p1, hn, s2, q0, q1, hk, k⟩ := h
    have cl := GG.I.cl
    have nA := GG.nA
    have nR := GG.nR
    have nK := GG.nK
    have nS := GG.nS
    have nB := GG.nB
    refine ⟨_, (pss_cons (ps_expr (pe_ca cWm hr (by decide) (by rfl) (pa_cons (pv 1) pa_nil)))
  (pss_cons (ps_for PassesOwn.never rfl (pi_tup' (pe_tup (pa_cons (pv 2) (pa_cons (pv 3) pa_nil)))) (pg_name (i := 5) sc_ginit.nd rfl (Or.inl rfl))
  (pss_one (ps_if (pt_not (pt_val (pe_ca cIr hr (by decide) (by rfl) (pa_cons (pv 5) pa_nil))))
  pss_never
  pss_nil)))
  (pss_cons (ps_expr (pe_ca cWk hr (by decide) (by rfl) (pa_cons (pv 4) pa_nil)))
  (pss_cons (ps_fld' (pv 0) (pv 1) rfl)
  (pss_cons (ps_fld' (pv 0) (pe_tup (pa_cons (pe_ca cAs hr (by decide) (by rfl) (pa_cons (pv 2) pa_nil)) (pa_cons (pe_ca cAs hr (by decide) (by rfl) (pa_cons (pv 3) pa_nil)) pa_nil))) rfl)
  (pss_cons (ps_fld' (pv 0) (pv 4) rfl)
  (pss_cons (ps_fld' (pv 0) pe_dnewK rfl)
  (pss_one (ps_fld' (pv 0) pe_dnewK rfl))))))))), ?_⟩
    refine go_start (σ := [some _, some _, some _, some _, some _, none]) rfl ?_
    walk_at "go"
    rename_i t1 H1 n1 z1 e1
    have he1 : NumAt CR H1 e p := up_num z1 he
    have hn1 : NumAt CR H1 n q := up_num z1 hn
    refine forTup (xs := [e, n]) (fun i σ H' => Same H1 H' ∧ ∃ u, σ = [some (.ref o), some m, some e, some n, some (.str kd), u]) ⟨Same.refl _, _, rfl⟩ (fun i σ H' h => .inl (.inl (h.1 _ _ e1))) ?_ ?_
    · rintro i u σ H2 hi hu ⟨z2, w0, rfl⟩
      have hr2 : ∃ r, NumAt CR H2 u r ∧ SzQ r ∧ 0 < r ∧ r ≤ 1 := by
        rcases (by have : i < 2 := hi; omega : i = 0 ∨ i = 1) with rfl | rfl
        · cases Option.some.inj hu
          exact ⟨p, up_num z2 he1, s1, p0, p1⟩
        · cases Option.some.inj hu
          exact ⟨q, up_num z2 hn1, s2, q0, q1⟩
      obtain ⟨r, hr3, w1, w2, w3⟩ := hr2
      walk_at "go"
      rename_i H3 z3
      exact ⟨z2.trans z3, _, rfl⟩
    · rintro σ H2 ⟨z2, w0, rfl⟩
      walk_at "go"
      refine go_dnew ?_
      intro D1 G1 nD1 y1 eD1
      walk_at "go"
      refine go_dnew ?_
      intro D2 G2 nD2 y2 eD2
      walk_at "go"
      rename_i K2 m2 e2 b1 d1 K3 z3 f1 b2 d2 K4 z4 f2 t5 K5 n5 z5 e5 K6 m6 e6 K7 m7 e7 Ka ma ea Kb mb eb
      have B0 : Bu o K5 Kb := m6.2.trans (m7.2.trans ((Bu.of y1 o).trans (ma.2.trans ((Bu.of y2 o).trans mb.2))))
      have Ba : Bu o H Ka := (Bu.of (z1.trans z2) o).trans (m2.2.trans ((Bu.of ((z3.trans z4).trans z5) o).trans (m6.2.trans (m7.2.trans ((Bu.of y1 o).trans ma.2)))))
      have Be : Bu o H Kb := Ba.trans ((Bu.of y2 o).trans mb.2)
      have e5o := z5 _ _ (z4 _ _ (z3 _ _ e2))
      have nDo : D2 ≠ o := fun z => by rw [z, ea] at nD2; cases nD2
      have hD0 : H D2 = none := by
        cases h : H D2 with
        | none => rfl
        | some u => rw [Ba _ _ nDo h] at nD2; cases nD2
      have r1 : RatAt CR Kb (.ref b1) p := rat_kept e5o (fun q z => by cases z) B0 (rat_of (z5 _ _ (z4 _ _ f1)))
      have r2 : RatAt CR Kb (.ref b2) q := rat_kept e5o (fun q z => by cases z) B0 (rat_of (z5 _ _ f2))
      have tk : Kb t5 = some (.tup [.ref b1, .ref b2]) := B0 _ _ (fun z => by rw [z, e5o] at e5; cases e5) e5
      have Me : Mi o 0 H Kb := ⟨⟨CG, dx, [], eo, rfl⟩, Be⟩
      have hmK : MapAt K C CR CM Kb m rs x y := by
        obtain ⟨a, da, pp, t, c, c1, c2, e', ea', hp', ht', h1', h2'⟩ := hm.ex
        exact ⟨a, da, pp, t, c, c1, c2, e', Be _ _ (fun z => by rw [z, eo] at ea'; cases ea') ea', mi_plan Me (by decide) hp', mi_gett Me ht', mi_rat Me (by decide) h1', mi_rat Me (by decide) h2'⟩
      exact k D2 _ hD0 Be ⟨⟨o, dx, m, t5, _, _, _, _, [], rfl, eb, hmK, tk, r1, r2, mb.2 _ _ nDo eD2, ⟨[], rfl, List.nodup_nil, fun n hn => by cases hn⟩, fun f z hz => by cases hz⟩⟩
end
end T
set_option Elab.async false
set_option maxRecDepth 100000
set_option maxHeartbeats 4000000
/-! Data that no pot is; dicts written out; items set; lists of ranges; comprehensions of objects with draws. -/
namespace Mv
open PySem PySem.Spec PyProof.Rows L2
/-- a list of two numbers -/
def isPt : List PyData → Bool
  | [.int _, .int _] => true
  | _ => false
mutual
/-- no list in it looks like a pot -/
def PF : PyData → Bool
  | .none | .bool _ | .int _ | .str _ => true
  | .dict _ => false
  | .list xs => !isPt xs && PFs xs
  | .tuple xs => PFs xs
def PFs : List PyData → Bool
  | [] => true
  | x :: xs => PF x && PFs xs
end
section
variable {K : PySem.W.Frag} {H H' : Hp} {p : Addr}
theorem isPt_of {ds : List PyData} {x y : Int} (h : DpAll K H [.int x, .int y] ds) : isPt ds = true := by
  cases h with
  | cons a b =>
    cases b with
    | cons b c =>
      cases c
      cases a
      cases b
      rfl
mutual
theorem pf_dp' (b : Bu p H H') (hp : Pot H p) : ∀ (d : PyData) (v : V), PF d = true → Dp K H v d → Dp K H' v d
  | .none, _, _, h => by cases h; exact .non
  | .bool b, _, _, h => by cases h; exact .bl b
  | .int i, _, _, h => by cases h; exact .int i
  | .str x, _, _, h => by cases h; exact .str x
  | .list ds, _, n, h => by
    have n' : isPt ds = false ∧ PFs ds = true := by simpa [PF] using n
    cases h with
    | lst hs ha =>
      obtain ⟨x, y, ep, _⟩ := hp.ex
      refine .lst ?_ (pf_dpa' b hp ds _ n'.2 ha)
      rcases hs with (h | ⟨o, h⟩) | h
      · exact .inl (.inl (b _ _ (fun z => by
          rw [z, ep] at h
          cases h
          have := isPt_of ha
          rw [n'.1] at this
          cases this) h))
      · exact .inl (.inr ⟨o, b _ _ (fun z => by rw [z, ep] at h; cases h) h⟩)
      · exact .inr h
  | .tuple ds, _, n, h => by
    have n' : PFs ds = true := by simpa [PF] using n
    cases h with
    | tup hs ha =>
      obtain ⟨ys, ep⟩ := hp.lst
      exact .tup (b.sqt ep hs) (pf_dpa' b hp ds _ n' ha)
  | .dict _, _, _, h => by cases h
theorem pf_dpa' (b : Bu p H H') (hp : Pot H p) : ∀ (ds : List PyData) (vs : List V), PFs ds = true → DpAll K H vs ds → DpAll K H' vs ds
  | [], _, _, h => by cases h; exact .nil
  | d :: ds, _, n, h => by
    have n' : PF d = true ∧ PFs ds = true := by simpa [PFs] using n
    cases h with
    | cons h1 h2 => exact .cons (pf_dp' b hp d _ n'.1 h1) (pf_dpa' b hp ds _ n'.2 h2)
end
theorem pf_dp {v : V} {d : PyData} (b : Bu p H H') (hp : Pot H p) (hn : PF d = true) (h : Dp K H v d) : Dp K H' v d := pf_dp' b hp d v hn h
theorem PFs.of : ∀ {ds : List PyData}, (∀ d ∈ ds, PF d = true) → PFs ds = true
  | [], _ => rfl
  | d :: ds, h => by
    have := PFs.of (ds := ds) fun x hx => h x (List.mem_cons_of_mem _ hx)
    simp [PFs, h d (List.mem_cons_self ..), this]
theorem PF.list {ds : List PyData} (hn : isPt ds = false) (h : ∀ d ∈ ds, PF d = true) : PF (.list ds) = true := by simp [PF, hn, PFs.of h]
theorem bu_getd {kvs : List (Key × V)} {a : Addr} (s : Bu p H H') (hp : Pot H p) (h : H a = some (.dK kvs)) : H' a = some (.dK kvs) := s _ _ (fun e => by obtain ⟨ys, z⟩ := hp.lst; rw [e, z] at h; cases h) h
theorem bd_bup {q : Addr} {H0 : Hp} (s : Bd q H H') (n : H0 q = none) (h : Bu p H0 H) : Bu p H0 H' := fun c o nc e => s.2 c o (fun z => by rw [z, n] at e; cases e) (h c o nc e)
theorem bd_same {q : Addr} {H0 : Hp} (s : Bd q H H') (n : H0 q = none) (h : Same H0 H) : Same H0 H' := fun c o e => s.2 c o (fun z => by rw [z, n] at e; cases e) (h c o e)
end
section
variable {K : PySem.W.Frag} {σ : L2.St} {H H' : Hp} {Q : VK} {p D : Addr} {td ty te to ti tk tv ta tb : TE} {x y v : V} {xs : List V} {kvs : List (Key × V)} {trs : List (TE × TE)} {QP : List (V × V) → Hp → Prop}
/-! dicts -/
def DgK (x : V) (Q : VK) : VK := fun y H2 => ∃ a v, x = .ref a ∧ DGet H2 a y (some v) ∧ Q v H2
theorem go_dgr2 (q : ty σ H (DgK x Q)) : DgR ty σ Q x H := q
theorem go_dgk {s : Str} (h : H D = some (.dK kvs)) (e : valV kvs (.inr s) = some v) (q : Q v H) : DgK (.ref D) Q (.str s) H := ⟨D, v, rfl, by have := dg_str (s := s) h; rw [e] at this; exact this, q⟩
def DpK (x v : V) (σ : L2.St) (n : L2.St → Hp → Prop) : VK := fun y H3 => ∃ a H4, x = .ref a ∧ DPut H3 a y v H4 ∧ n σ H4
def DpT (ty : TE) (v : V) (σ : L2.St) (n : L2.St → Hp → Prop) : VK := fun x H2 => ty σ H2 (DpK x v σ n)
theorem go_dpr2 {n : L2.St → Hp → Prop} (q : td σ H (DpT ty v σ n)) : DpR td ty σ n v H := q
theorem go_dpt {n : L2.St → Hp → Prop} (q : ty σ H (DpK x v σ n)) : DpT ty v σ n x H := q
theorem go_dpk {s : Str} {n : L2.St → Hp → Prop} (h : H D = some (.dK kvs)) (hl : kvs.length < sizeLine) (q : ∀ H', Bd D H H' → H' D = some (.dK (putK kvs (.inr s) v)) → n σ H') : DpK (.ref D) v σ n (.str s) H :=
  ⟨D, _, rfl, dp_str h hl, q _ (bd_set h) upd_same⟩
def DsK (p : Addr) (Q : VK) : List (V × V) → Hp → Prop := fun ps H2 => H2 p = some (.dK []) ∧ ∃ kvs : List (Key × V), ps = kvs.map (fun kv => (kV kv.1, kv.2)) ∧ kvs.length ≤ 15 ∧ Q (.ref p) (upd H2 p (.dK (mergeK [] kvs)))
theorem go_disp (q : ∀ p H', H p = none → Same H H' → H' p = some (.dK []) → tPairs trs σ H' (DsK p Q)) : tDisp trs σ H Q := fun p hp => q p _ hp (same_new hp) upd_same
theorem go_pnil (q : QP [] H) : tPairs [] σ H QP := q
theorem go_pcons (q : tk σ H fun x H1 => tv σ H1 fun y H2 => tPairs trs σ H2 fun ps H3 => QP ((x, y) :: ps) H3) : tPairs ((tk, tv) :: trs) σ H QP := q
theorem go_dsk2 {k1 k2 : Str} {v1 v2 : V} (h : H p = some (.dK [])) (q : ∀ H', Bd p H H' → H' p = some (.dK (mergeK [] [(.inr k1, v1), (.inr k2, v2)])) → Q (.ref p) H') : DsK p Q [(.str k1, v1), (.str k2, v2)] H :=
  ⟨h, [(.inr k1, v1), (.inr k2, v2)], rfl, by show 2 ≤ 15; decide, q _ (bd_set h) upd_same⟩
/-! x[i] = v -/
def SiR (t : TSet) (v : V) (ti : TE) (σ : L2.St) (QS : L2.St → Hp → Prop) : VK := fun o H1 => ti σ H1 fun i H2 => t o i v H2 fun H3 => QS σ H3
theorem go_gsub {t : TSet} {QS : L2.St → Hp → Prop} (q : to σ H (SiR t v ti σ QS)) : gSub to ti t v σ H QS := q
theorem go_sir {t : TSet} {QS : L2.St → Hp → Prop} (q : ti σ H fun i H2 => t x i v H2 fun H3 => QS σ H3) : SiR t v ti σ QS x H := q
theorem go_setL {k : Nat} {QH : Hp → Prop} (h : H p = some (.lst xs)) (hk : k < xs.length) (q : QH (upd H p (.lst (xs.set k v)))) : rSetL (.ref p) (.int (k : Int)) v H QH :=
  ⟨p, xs, k, k, rfl, rfl, h, by unfold ixN; simp; omega, q⟩
/-! list(range(..)) -/
def LrR (Q : VK) : Int → Int → Hp → Prop := fun a b H1 => RgOk a b ∧ ∀ q, H1 q = none → Q (.ref q) (upd H1 q (.lst (rgV a b)))
def RgE (x : V) (R : Int → Int → Hp → Prop) : VK := fun y H2 => ∃ i j, x = .int i ∧ y = .int j ∧ R i j H2
theorem go_lrg {tr : L2.St → Hp → (Int → Int → Hp → Prop) → Prop} (q : tr σ H (LrR Q)) : tLstRg tr σ H Q := q
theorem go_rgt2 {R : Int → Int → Hp → Prop} (q : ta σ H fun x H1 => tb σ H1 (RgE x R)) : tRg2 ta tb σ H R := q
theorem go_rge {i j : Int} {R : Int → Int → Hp → Prop} (q : R i j H) : RgE (.int i) R (.int j) H := ⟨i, j, rfl, rfl, q⟩
theorem go_lrr {i j : Nat} (hj : j ≤ 100000) (hi : i ≤ j) (q : ∀ l H', H l = none → Same H H' → H' l = some (.lst ((List.range (j - i)).map fun k => V.int ((i + k : Nat) : Int))) → Q (.ref l) H') : LrR Q (i : Int) (j : Int) H := by
  have e : rgV (i : Int) (j : Int) = (List.range (j - i)).map fun k => V.int ((i + k : Nat) : Int) := by
    unfold rgV
    rw [show ((j : Int) - (i : Int)).toNat = j - i by omega]
    exact List.map_congr_left fun k _ => by rw [Int.natCast_add]
  refine ⟨RgOk.of_le (by omega) (by omega) (by omega) (by omega), fun l hl => ?_⟩
  exact q l _ hl (same_new hl) (by rw [upd_same, e])
/-! x[::-1] -/
theorem pe_revL' {X : Cx} {e : Expr} {te : TE} {k : Nat} {p1 p2 p3 pos : Pos} (he : PE X e te) (eK : X.K = K := by (conv => lhs; whnf)) : PE X (.Subscript e (.Slice none none (some (.UnaryOp .USub (.Constant (.int 1) k p1) p2)) p3) pos) (tRevL K te) := by
  subst eK
  exact pe_revL he
def RvL (K : PySem.W.Frag) (Q : VK) : VK := fun x H1 => ∃ a xs, x = .ref a ∧ SqL K H1 a xs ∧ ∀ p, H1 p = none → Q (.ref p) (upd H1 p (.lst xs.reverse))
theorem go_revl (q : te σ H (RvL K Q)) : tRevL K te σ H Q := q
theorem go_rvl {a : Addr} (h : SqL K H a xs) (q : ∀ p H', H p = none → Same H H' → H' p = some (.lst xs.reverse) → Q (.ref p) H') : RvL K Q (.ref a) H := ⟨a, xs, rfl, h, fun p hp => q p _ hp (same_new hp) upd_same⟩
/-! comprehensions of objects, with draws -/
theorem lcObjB {J : It} {k : Nat} {G : Hp → Prop} {Y : Nat → Hp → V → Hp → Prop} {g : TG} {vs : List Nat} (w : Walk J k G Y) (Rp : Nat → V → Hp → Prop) (hp : Pot H p) (hz : k ≤ 100000) (hm : ∀ i y H1 H2, Pot H1 p → Bu p H1 H2 → Rp i y H1 → Rp i y H2) (hu : ∀ i y H1 D zs o, H1 D = some (.lst zs) → Rp i y H1 → Rp i y (upd H1 D o)) (hG : ∀ H', Bu p H H' → G H')
    (hs : ∀ (i : Nat) (x : V) (H1 H2 : Hp) (Q' : VK), i < k → Pot H1 p → Bu p H H1 → Y i H1 x H2 → (∀ y H4, Pot H4 p → Bu p H1 H4 → Rp i y H4 → Q' y H4) → g x (wipe σ vs) H2 fun σ2 H3 => wipe σ2 vs = wipe σ vs ∧ te σ2 H3 Q')
    (hd : ∀ D H' ys, H D = none → Pot H' p → Bu p H H' → H' D = some (.lst ys) → ys.length = k → (∀ (i : Nat) y, ys[i]? = some y → Rp i y H') → Q (.ref D) H') (hg : ∀ x σ' H' (P Q : L2.St → Hp → Prop), (∀ σ2 H2, P σ2 H2 → Q σ2 H2) → g x σ' H' P → g x σ' H' Q) : LcR g tYes te vs σ Q J H := by
  intro D hD
  have hne : D ≠ p := hp.ne hD
  refine lc_it w (fun i H' => Bu p H H' ∧ Pot H' p ∧ ∃ ys, H' D = some (.lst ys) ∧ ys.length = i ∧ ∀ (i : Nat) y, ys[i]? = some y → Rp i y H') ⟨Bu.new hD, hp.upd hne, [], upd_same, rfl, fun i y h => by simp at h⟩ (fun i H' _ h => hG H' h.1) ?_ ?_
  · rintro i x H1 H2 hi ⟨b1, p1, ys, ed, hlen, ha⟩ hy
    refine hg x _ H2 _ _ (fun σ2 H2 h => ⟨h.1, h.2⟩) (hs i x H1 H2 (fun y H4 => ∃ acc, H4 D = some (.lst acc) ∧ acc.length < sizeLine ∧ Bu p H (upd H4 D (.lst (acc ++ [y]))) ∧ Pot (upd H4 D (.lst (acc ++ [y]))) p ∧ ∃ ys, upd H4 D (.lst (acc ++ [y])) D = some (.lst ys) ∧ ys.length = i + 1 ∧ ∀ (i : Nat) z, ys[i]? = some z → Rp i z (upd H4 D (.lst (acc ++ [y])))) hi p1 b1 hy fun y H4 p4 b4 ry => ?_)
    have e4 := b4 _ _ hne ed
    refine ⟨ys, e4, ?_, ?_, p4.upd hne, ys ++ [y], upd_same, by simp [hlen], fun j z hz' => ?_⟩
    · rw [hlen]; unfold sizeLine; omega
    · intro b o nb e
      rw [upd_ne (ne_of_none e hD)]
      exact (b1.trans b4) b o nb e
    · rcases Nat.lt_trichotomy j ys.length with c | c | c
      · rw [List.getElem?_append_left c] at hz'
        exact hu _ _ _ _ _ _ e4 (hm _ _ _ _ p1 b4 (ha j z hz'))
      · subst c
        rw [List.getElem?_append_right (Nat.le_refl _), Nat.sub_self] at hz'
        obtain rfl := Option.some.inj hz'
        rw [hlen]
        exact hu _ _ _ _ _ _ e4 ry
      · rw [List.getElem?_eq_none (by simp; omega)] at hz'
        cases hz'
  · rintro H1 ⟨b1, p1, ys, ed, hlen, ha⟩
    exact hd D H1 ys hD p1 b1 ed hlen ha
end
end Mv
set_option Elab.async false
set_option maxRecDepth 100000
set_option maxHeartbeats 4000000
namespace T
open PySem L2 Mv
abbrev s_rounds : Stmt := top 69
theorem sc_rounds : FnScope ["_law_pot_here", "_law_many", "_law_more", "_law_one", "_law_other", "_law_some"] ["_law_pot_here"] (defScope s_rounds) := ⟨rfl, rfl, rfl, by decide +kernel, rfl, by decide +kernel, by decide +kernel⟩
section
variable {P : Program} {w : World} {K : PySem.W.Frag} {mg : Str → Option Value} {base : Heap} {C AX CR CM CG KD : Addr}
theorem pf_cut (c : Pm.Cut) : PF (pCut c) = true := rfl
theorem pf_rds (rs : List (List Pm.Cut)) : PF (pRds rs) = true := by
  refine PF.list ?_ fun d hd => ?_
  · match rs with
    | [] => rfl
    | [_] => rfl
    | [_, _] => rfl
    | _ :: _ :: _ :: _ => rfl
  · obtain ⟨r, _, rfl⟩ := List.mem_map.mp hd
    refine PF.list ?_ fun d hd => ?_
    · match r with
      | [] => rfl
      | [_] => rfl
      | [_, _] => rfl
      | _ :: _ :: _ :: _ => rfl
    · obtain ⟨c, _, rfl⟩ := List.mem_map.mp hd
      exact pf_cut c
/-- lists of data without lists, at none of av -/
inductive LLs (K : PySem.W.Frag) (H : Hp) (av : List Addr) : List V → List (List PyData) → Prop
  | nil : LLs K H av [] []
  | cons {q : Addr} {zs ys : List V} {e : List PyData} {es : List (List PyData)} (n : q ∉ av) (h : H q = some (.lst zs)) (ha : DpAll K H zs e) (nl : NLs e = true) (r : LLs K H av ys es) : LLs K H av (.ref q :: ys) (e :: es)
theorem LLs.bu {H H' : Hp} {av : List Addr} {p : Addr} {ws : List V} (b : Bu p H H') (hm : p ∈ av) (hp : H p = some (.lst ws)) : ∀ {xs : List V} {es : List (List PyData)}, LLs K H av xs es → LLs K H' av xs es
  | _, _, .nil => .nil
  | _, _, .cons n h ha nl r => .cons n (b _ _ (fun z => n (z ▸ hm)) h) (ha.bu nl b hp) nl (LLs.bu b hm hp r)
theorem LLs.same {H H' : Hp} {av : List Addr} (s : Same H H') : ∀ {xs : List V} {es : List (List PyData)}, LLs K H av xs es → LLs K H' av xs es
  | _, _, .nil => .nil
  | _, _, .cons n h ha nl r => .cons n (s _ _ h) (ha.up s) nl (LLs.same s r)
theorem LLs.dp {H : Hp} {av : List Addr} : ∀ {xs : List V} {es : List (List PyData)}, LLs K H av xs es → DpAll K H xs (es.map PyData.list)
  | _, _, .nil => .nil
  | _, _, .cons _ h ha _ r => .cons (.lst (SqL.of h) ha) (LLs.dp r)
theorem LLs.rep {H : Hp} {av : List Addr} {q : Addr} {zs : List V} {e : List PyData} (n : q ∉ av) (h : H q = some (.lst zs)) (ha : DpAll K H zs e) (nl : NLs e = true) : ∀ k, LLs K H av (List.replicate k (.ref q)) (List.replicate k e)
  | 0 => .nil
  | k + 1 => .cons n h ha nl (LLs.rep n h ha nl k)
theorem nl_cuts (r : List Pm.Cut) : NLs (r.map pCut) = true := NLs.of fun d hd => by
  obtain ⟨c, _, rfl⟩ := List.mem_map.mp hd
  rfl
/-- rounds: all lists at none of av -/
structure Rn (K : PySem.W.Frag) (H : Hp) (av : List Addr) (v : V) (rs : List (List Pm.Cut)) : Prop where
  ex : ∃ a ys, v = .ref a ∧ a ∉ av ∧ H a = some (.lst ys) ∧ LLs K H av ys (rs.map fun r => r.map pCut)
theorem Rn.same {H H' : Hp} {av : List Addr} {v : V} {rs : List (List Pm.Cut)} (h : Rn K H av v rs) (s : Same H H') : Rn K H' av v rs := by
  obtain ⟨a, ys, e, n, ea, l⟩ := h.ex
  exact ⟨a, ys, e, n, s _ _ ea, l.same s⟩
theorem Rn.bu {H H' : Hp} {av : List Addr} {p : Addr} {ws : List V} {v : V} {rs : List (List Pm.Cut)} (h : Rn K H av v rs) (b : Bu p H H') (hm : p ∈ av) (hp : H p = some (.lst ws)) : Rn K H' av v rs := by
  obtain ⟨a, ys, e, n, ea, l⟩ := h.ex
  exact ⟨a, ys, e, n, b _ _ (fun z => n (z ▸ hm)) ea, l.bu b hm hp⟩
theorem LLs.sub {H : Hp} {av bv : List Addr} (hs : ∀ a ∈ bv, a ∈ av) : ∀ {xs : List V} {es : List (List PyData)}, LLs K H av xs es → LLs K H bv xs es
  | _, _, .nil => .nil
  | _, _, .cons n h ha nl r => .cons (fun z => n (hs _ z)) h ha nl (LLs.sub hs r)
theorem LLs.add {H : Hp} {av : List Addr} {q : Addr} (hq : H q = none) : ∀ {xs : List V} {es : List (List PyData)}, LLs K H av xs es → LLs K H (q :: av) xs es
  | _, _, .nil => .nil
  | _, _, .cons n h ha nl r => .cons (fun z => by
      rcases List.mem_cons.mp z with z | z
      · rw [z, hq] at h; cases h
      · exact n z) h ha nl (LLs.add hq r)
theorem LLs.bd {H H' : Hp} {av : List Addr} {D : Addr} (b : Bd D H H') : ∀ {xs : List V} {es : List (List PyData)}, LLs K H av xs es → LLs K H' av xs es
  | _, _, .nil => .nil
  | _, _, .cons n h ha nl r => .cons n (bd_getl b h) (bd_dpa b ha) nl (LLs.bd b r)
theorem Rn.sub {H : Hp} {av bv : List Addr} {v : V} {rs : List (List Pm.Cut)} (h : Rn K H av v rs) (hs : ∀ a ∈ bv, a ∈ av) : Rn K H bv v rs := by
  obtain ⟨a, ys, e, n, ea, l⟩ := h.ex
  exact ⟨a, ys, e, fun z => n (hs _ z), ea, l.sub hs⟩
theorem Rn.add {H : Hp} {av : List Addr} {q : Addr} {v : V} {rs : List (List Pm.Cut)} (h : Rn K H av v rs) (hq : H q = none) : Rn K H (q :: av) v rs := by
  obtain ⟨a, ys, e, n, ea, l⟩ := h.ex
  refine ⟨a, ys, e, fun z => ?_, ea, l.add hq⟩
  rcases List.mem_cons.mp z with z | z
  · rw [z, hq] at ea; cases ea
  · exact n z
theorem Rn.bd {H H' : Hp} {av : List Addr} {D : Addr} {v : V} {rs : List (List Pm.Cut)} (h : Rn K H av v rs) (b : Bd D H H') : Rn K H' av v rs := by
  obtain ⟨a, ys, e, n, ea, l⟩ := h.ex
  exact ⟨a, ys, e, n, bd_getl b ea, l.bd b⟩
theorem Rn.pot {H H' : Hp} {av : List Addr} {p : Addr} {v : V} {rs : List (List Pm.Cut)} (h : Rn K H av v rs) (b : Bu p H H') (hm : p ∈ av) (hp : Pot H p) : Rn K H' av v rs := by
  obtain ⟨ws, e⟩ := hp.lst
  exact h.bu b hm e
theorem Rn.dp {H : Hp} {av : List Addr} {v : V} {rs : List (List Pm.Cut)} (h : Rn K H av v rs) : Dp K H v (pRds rs) := by
  obtain ⟨a, ys, rfl, n, ea, l⟩ := h.ex
  refine .lst (SqL.of ea) ?_
  have := l.dp
  rw [List.map_map] at this
  exact this
/-- the list of rounds to choose from -/
structure SmAt (K : PySem.W.Frag) (H : Hp) (p s : Addr) (xs : List V) : Prop where
  at_ : H s = some (.lst xs)
  all : ∀ x ∈ xs, ∃ rs, Rn K H [p, s] x rs ∧ Pm.RdsOk rs
theorem SmAt.same {H H' : Hp} {p s : Addr} {xs : List V} (h : SmAt K H p s xs) (z : Same H H') : SmAt K H' p s xs :=
  ⟨z _ _ h.at_, fun x hx => by obtain ⟨rs, d, o⟩ := h.all x hx; exact ⟨rs, d.same z, o⟩⟩
theorem SmAt.bu {H H' : Hp} {p s : Addr} {xs : List V} (h : SmAt K H p s xs) (hp : Pot H p) (n : s ≠ p) (z : Bu p H H') : SmAt K H' p s xs := by
  obtain ⟨ys, e⟩ := hp.lst
  exact ⟨z _ _ n h.at_, fun x hx => by obtain ⟨rs, d, o⟩ := h.all x hx; exact ⟨rs, d.bu z (by simp) e, o⟩⟩
theorem SmAt.app {H : Hp} {p s : Addr} {xs : List V} {x : V} {rs : List (List Pm.Cut)} (h : SmAt K H p s xs) (hx : Rn K H [p, s] x rs) (ok : Pm.RdsOk rs) : SmAt K (upd H s (.lst (xs ++ [x]))) p s (xs ++ [x]) := by
  refine ⟨upd_same, fun y hy => ?_⟩
  have z : Bu s H (upd H s (.lst (xs ++ [x]))) := Bu.set
  rcases List.mem_append.mp hy with hy | hy
  · obtain ⟨rs, d, o⟩ := h.all y hy
    exact ⟨rs, d.bu z (by simp) h.at_, o⟩
  · obtain rfl : y = x := by simpa using hy
    exact ⟨rs, hx.bu z (by simp) h.at_, ok⟩
theorem tE {H : Hp} {a : Addr} {m : Nat} (h : H a = some (.tup [.str "east", .int (m : Int)])) : Dp K H (.ref a) (pCut (0, m)) := .tup (SqT.of h) (.cons (.str _) (.cons (.int _) .nil))
theorem tN {H : Hp} {a : Addr} {m : Nat} (h : H a = some (.tup [.str "north", .int (m : Int)])) : Dp K H (.ref a) (pCut (1, m)) := .tup (SqT.of h) (.cons (.str _) (.cons (.int _) .nil))
/-- one round, two rounds, three rounds -/
theorem rn1 {H : Hp} {av : List Addr} {a q1 : Addr} {z1 : List V} {r1 : List Pm.Cut} (na : a ∉ av) (ea : H a = some (.lst [.ref q1])) (n1 : q1 ∉ av) (e1 : H q1 = some (.lst z1)) (d1 : DpAll K H z1 (r1.map pCut)) : Rn K H av (.ref a) [r1] :=
  ⟨a, _, rfl, na, ea, .cons n1 e1 d1 (nl_cuts _) .nil⟩
theorem rn2 {H : Hp} {av : List Addr} {a q1 q2 : Addr} {z1 z2 : List V} {r1 r2 : List Pm.Cut} (na : a ∉ av) (ea : H a = some (.lst [.ref q1, .ref q2])) (n1 : q1 ∉ av) (e1 : H q1 = some (.lst z1)) (d1 : DpAll K H z1 (r1.map pCut)) (n2 : q2 ∉ av) (e2 : H q2 = some (.lst z2)) (d2 : DpAll K H z2 (r2.map pCut)) : Rn K H av (.ref a) [r1, r2] :=
  ⟨a, _, rfl, na, ea, .cons n1 e1 d1 (nl_cuts _) (.cons n2 e2 d2 (nl_cuts _) .nil)⟩
theorem rn3 {H : Hp} {av : List Addr} {a q1 q2 q3 : Addr} {z1 z2 z3 : List V} {r1 r2 r3 : List Pm.Cut} (na : a ∉ av) (ea : H a = some (.lst [.ref q1, .ref q2, .ref q3])) (n1 : q1 ∉ av) (e1 : H q1 = some (.lst z1)) (d1 : DpAll K H z1 (r1.map pCut)) (n2 : q2 ∉ av) (e2 : H q2 = some (.lst z2)) (d2 : DpAll K H z2 (r2.map pCut)) (n3 : q3 ∉ av) (e3 : H q3 = some (.lst z3)) (d3 : DpAll K H z3 (r3.map pCut)) : Rn K H av (.ref a) [r1, r2, r3] :=
  ⟨a, _, rfl, na, ea, .cons n1 e1 d1 (nl_cuts _) (.cons n2 e2 d2 (nl_cuts _) (.cons n3 e3 d3 (nl_cuts _) .nil))⟩
/-- not the pot, not the list: new when both were there; or the list was new when it was there -/
theorem av_new {H : Hp} {p s q : Addr} {xs : List V} (hp : Pot H p) (hs : H s = some (.lst xs)) (n : H q = none) : q ∉ [p, s] := by
  simp only [List.mem_cons, List.not_mem_nil, or_false, not_or]
  exact ⟨hp.ne n, fun z => by rw [z, hs] at n; cases n⟩
theorem av_old {H H1 : Hp} {p s q : Addr} {o : HO} (hp : Pot H1 p) (n1 : H1 q = none) (hq : H q = some o) (hs : H s = none) : q ∉ [p, s] := by
  simp only [List.mem_cons, List.not_mem_nil, or_false, not_or]
  exact ⟨hp.ne n1, fun z => by rw [z, hs] at hq; cases hq⟩
/-- what is kept from one append to the next -/
structure Sx (K : PySem.W.Frag) (H0 H : Hp) (p s o1 o2 : Addr) (m : Nat) (xs : List V) : Prop where
  pot : Pot H p
  bu : Bu p H0 H
  sm : SmAt K H p s xs
  e1 : H o1 = some (.tup [.str "east", .int (m : Int)])
  e2 : H o2 = some (.tup [.str "north", .int (m : Int)])
theorem Sx.same {H0 H H' : Hp} {p s o1 o2 : Addr} {m : Nat} {xs : List V} (h : Sx K H0 H p s o1 o2 m xs) (z : Same H H') : Sx K H0 H' p s o1 o2 m xs :=
  ⟨h.pot.same z, h.bu.trans (Bu.of z p), h.sm.same z, z _ _ h.e1, z _ _ h.e2⟩
theorem Sx.buu {H0 H H' : Hp} {p s o1 o2 : Addr} {m : Nat} {xs : List V} (h : Sx K H0 H p s o1 o2 m xs) (n : s ≠ p) (z : Bu p H H') (hp : Pot H' p) : Sx K H0 H' p s o1 o2 m xs :=
  ⟨hp, h.bu.trans z, h.sm.bu h.pot n z, bu_gett z h.pot h.e1, bu_gett z h.pot h.e2⟩
theorem Sx.app {H0 H : Hp} {p s o1 o2 : Addr} {m : Nat} {xs : List V} {x : V} {rs : List (List Pm.Cut)} (h : Sx K H0 H p s o1 o2 m xs) (n : s ≠ p) (hn : H0 s = none) (hx : Rn K H [p, s] x rs) (ok : Pm.RdsOk rs) : Sx K H0 (upd H s (.lst (xs ++ [x]))) p s o1 o2 m (xs ++ [x]) := by
  have es := h.sm.at_
  refine ⟨h.pot.upd n, fun c o nc e => ?_, h.sm.app hx ok, ?_, ?_⟩
  · rw [upd_ne (ne_of_none e hn)]
    exact h.bu c o nc e
  · rw [upd_ne (fun z => by have := h.e1; rw [z, es] at this; cases this)]
    exact h.e1
  · rw [upd_ne (fun z => by have := h.e2; rw [z, es] at this; cases this)]
    exact h.e2
theorem rok1 : ∀ m, m < 3 → Pm.RdsOk [[(0, 2 + m), (1, 2 + m)]] ∧ Pm.RdsOk [[(1, 2 + m), (0, 2 + m)]] ∧ Pm.RdsOk [[(0, 2 + m)], [(1, 2 + m)]] ∧ Pm.RdsOk [[(1, 2 + m)], [(0, 2 + m)]] := by decide
theorem rok2 : ∀ m, m < 3 → ∀ k, k < 3 → Pm.RdsOk [[(0, 2 + m)], [(1, 2 + k)], [(1, 2 + m), (0, 2 + k)]] ∧ Pm.RdsOk (List.replicate (1 + k) [(0, 2 + m), (1, 2 + m)]) := by decide
def sp_rounds (K : PySem.W.Frag) : Sp := fun vs H Q _ => ∃ (p : Addr), vs = [.ref p] ∧ Pot H p ∧ ∀ (v : V) (rs : List (List Pm.Cut)) (H' : Hp), Rn K H' [p] v rs → Pm.RdsOk rs → Pot H' p → Bu p H H' → Q v H'
theorem c_rounds {K : PySem.W.Frag} {p : Addr} {H : Hp} {Q : VK} {E : XK} (h0 : Pot H p) (q : ∀ (v : V) (rs : List (List Pm.Cut)) (H' : Hp), Rn K H' [p] v rs → Pm.RdsOk rs → Pot H' p → Bu p H H' → Q v H') : sp_rounds K [.ref p] H Q E := ⟨_, rfl, h0, q⟩
local macro_rules | `(tactic| tb_rel) => `(tactic| repeat (first
  | with_reducible assumption
  | with_reducible exact Dp.int _
  | with_reducible exact Dp.str _
  | with_reducible exact Dp.bl _
  | with_reducible exact Dp.non
  | (with_reducible apply SqT.of; with_reducible assumption)
  | (with_reducible apply SqL.of; with_reducible assumption)
  | (with_reducible apply up_dp; with_reducible assumption)
  | (with_reducible apply up_sqt; with_reducible assumption)
  | (with_reducible apply up_sql; with_reducible assumption)
  | (with_reducible apply up_get; with_reducible assumption)
  | (with_reducible apply up_pot; with_reducible assumption)
  | with_reducible exact Same.refl _
  | with_reducible exact Bu.refl _ _
  | (with_reducible apply up_same; with_reducible assumption)
  | (with_reducible apply up_bu; with_reducible assumption)
  | (with_reducible apply bu_bu; with_reducible assumption)
  | (with_reducible apply free_of; with_reducible assumption)
  | (with_reducible apply mi_fr; with_reducible assumption; (focus (tb_rel; done)))
  | (with_reducible apply mi_dp; with_reducible assumption)
  | (with_reducible apply mi_sqt; with_reducible assumption)
  | (with_reducible apply mi_sql; with_reducible assumption)
  | (with_reducible apply mi_gett; with_reducible assumption)
  | (with_reducible apply mi_getl; with_reducible assumption)
  | (with_reducible apply mi_pot; with_reducible assumption)
  | (with_reducible apply mi_refl; with_reducible assumption; (focus (with_unfolding_all exact rfl)))
  | (with_reducible apply up_mi; with_reducible assumption)
  | (with_reducible apply mi_mi; with_reducible assumption)
  | (with_reducible apply mi_bu; with_reducible assumption)
  | (with_reducible apply up_plan; with_reducible assumption)
  | (with_reducible apply bu_plan; with_reducible assumption; (focus (tb_rel; done)))
  | (with_reducible apply mi_plan; with_reducible assumption; (focus (lcg_src; done)))
  | (with_reducible apply up_bd; with_reducible assumption)
  | (with_reducible apply bd_bd; with_reducible assumption)
  | (with_reducible apply bd_same; with_reducible assumption; (focus (tb_rel; done)))
  | (with_reducible apply bd_bup; with_reducible assumption; (focus (tb_rel; done)))
  | (with_reducible apply bu_getd; with_reducible assumption; (focus (tb_rel; done)))
  | (with_reducible apply bd_dp; with_reducible assumption)
  | (with_reducible apply bd_sqt; with_reducible assumption)
  | (with_reducible apply bd_sql; with_reducible assumption)
  | (with_reducible apply bd_gett; with_reducible assumption)
  | (with_reducible apply bd_getl; with_reducible assumption)
  | (with_reducible apply bd_geti; with_reducible assumption)
  | (with_reducible apply bd_pot; with_reducible assumption)
  | (with_reducible apply pf_dp; with_reducible assumption; (focus (tb_rel; done)); (focus (lcg_src; done)))
  | (with_reducible apply bu_gett; with_reducible assumption; (focus (tb_rel; done)))
  | (with_reducible apply bu_geti; with_reducible assumption; (focus (tb_rel; done)))
  | (with_reducible apply bu_get; with_reducible assumption; (focus (tlg_ne; done)))
  | (with_reducible apply bu_sqt; with_reducible assumption; (focus (tb_rel; done)))
  | (with_reducible apply bu_sql; with_reducible assumption; (focus (tlg_ne; done)))
  | (with_reducible apply bu_dp; with_reducible assumption; (focus (tb_rel; done)); (focus (lcg_src; done)))
  | fail "up"))
local macro_rules | `(tactic| tlg_ne) => `(tactic| first
  | with_reducible assumption
  | (with_reducible apply pot_ne; with_reducible assumption; (focus (tb_rel; done)))
  | fail "ne")
local macro_rules | `(tactic| lcg_src) => `(tactic| first
  | with_reducible assumption
  | with_unfolding_all exact rfl
  | with_unfolding_all decide
  | with_unfolding_all exact Nat.ne_of_beq_eq_false rfl
  | (apply_assumption; done)
  | omega
  | (simp; done)
  | (simp; omega)
  | fail "sd")
local macro_rules | `(tactic| lcg_sub) => `(tactic| first
  | (unfold sizeLine; omega)
  | (simp only [List.length_cons, List.length_nil, List.length_append, List.length_map, List.length_replicate, List.length_take, List.length_drop]; unfold sizeLine; omega)
  | (simp; unfold sizeLine; omega)
  | fail "sz")
local macro_rules | `(tactic| nest_cls) => `(tactic| first
  | (tb_rel; done)
  | (with_reducible apply nmI; (focus (tb_rel; done)))
  | (with_reducible apply d_tup; (focus (tb_rel; done)); (focus (lsm_bools; done)))
  | (with_reducible apply d_lst; (focus (tb_rel; done)); (focus (lsm_bools; done)))
  | fail "dp")
local macro_rules | `(tactic| lsm_bools) => `(tactic| repeat (first
  | with_reducible exact DpAll.nil
  | with_reducible assumption
  | (with_reducible apply DpAll.cons; (focus (nest_cls; done)))
  | fail "dpa"))
local macro_rules | `(tactic| none_booked) => `(tactic| first | with_unfolding_all exact rfl | (with_reducible apply atI_nat; with_reducible assumption) | fail "ix")
local macro_rules | `(tactic| walk_at "go") => `(tactic| repeat (first
  | (focus (with_reducible refine go_var (v := ?_) ?_ ?_; rotate_left; (focus (with_unfolding_all exact rfl))))
  | with_reducible refine go_seq ?_
  | with_reducible refine go_cN ?_
  | with_reducible refine go_c ?_
  | with_reducible refine go_op ?_
  | with_reducible refine go_nil ?_
  | with_reducible refine go_cons ?_
  | with_reducible refine go_cb ?_
  | with_reducible refine go_call0 ?_
  | with_reducible refine go_asg ?_
  | (focus (with_reducible refine go_gname (σ' := ?_) ?_ ?_; rotate_left; (focus (simp only [List.set_cons_succ, List.set_cons_zero]; exact rfl))))
  | with_reducible refine go_par ?_
  | with_reducible refine go_par3 ?_
  | (focus (with_reducible refine go_par3k (σ' := ?_) ?_ ?_; rotate_left; (focus (simp only [List.set_cons_succ, List.set_cons_zero]; exact rfl))))
  | with_reducible refine go_bm ?_
  | (with_reducible apply go_bmL; (focus (tb_rel; done)))
  | (with_reducible apply go_fdX; (focus (with_reducible assumption; done)))
  | (with_reducible apply go_rI; (focus (with_reducible assumption; done)))
  | (focus (with_reducible refine go_par2 (σ' := ?_) ?_ ?_; rotate_left; (focus (simp only [List.set_cons_succ, List.set_cons_zero]; exact rfl))))
  | with_reducible refine go_ifs ?_
  | with_reducible refine go_test ?_
  | with_reducible refine go_tb ?_
  | with_reducible refine go_asb ?_
  | with_reducible refine go_asi ?_
  | with_reducible refine go_ret ?_
  | with_reducible refine go_retn ?_
  | with_reducible refine go_drop ?_
  | with_reducible refine go_next ?_
  | with_reducible refine go_and ?_
  | with_reducible refine go_or ?_
  | with_reducible refine go_not ?_
  | with_reducible refine go_andv ?_
  | with_reducible refine go_orv ?_
  | with_reducible refine go_notv ?_
  | with_reducible refine go_ife ?_
  | with_reducible refine go_chain ?_
  | with_reducible refine go_if1 ?_
  | with_reducible refine go_if0 ?_
  | with_reducible refine go_ifn1 ?_
  | with_reducible refine go_ifn0 ?_
  | (with_reducible apply go_ift; (focus (first | with_reducible rfl | with_reducible assumption | omega)))
  | (with_reducible apply go_ifnt; (focus (first | with_reducible rfl | with_reducible assumption | omega)))
  | (with_reducible apply go_iff; (focus (first | with_reducible assumption | omega)))
  | (with_reducible apply go_ifnf; (focus (first | with_reducible assumption | omega)))
  | with_reducible refine go_un ?_
  | with_reducible refine go_tup ?_
  | with_reducible refine go_lst ?_
  | (with_reducible apply go_newt; (focus (lcg_sub; done)); intros)
  | (with_reducible apply go_newl; (focus (lcg_sub; done)); intros)
  | with_reducible refine go_meth ?_
  | with_reducible refine go_for ?_
  | with_reducible refine go_lc ?_
  | with_reducible refine go_irng1 ?_
  | with_reducible refine go_irng2 ?_
  | with_reducible refine go_ilist ?_
  | with_reducible refine go_itup ?_
  | with_reducible refine go_izip ?_
  | with_reducible refine go_ienum ?_
  | (with_reducible apply go_rg1; (focus (lcg_src; done)))
  | (with_reducible apply go_rg2; (focus (lcg_src; done)); (focus (lcg_src; done)))
  | (with_reducible apply go_lsr; (focus (tb_rel; done)))
  | (with_reducible apply go_tpr; (focus (tb_rel; done)))
  | (with_reducible apply go_zpr; (focus (tb_rel; done)); (focus (tb_rel; done)))
  | (with_reducible apply go_zprT; (focus (tb_rel; done)); (focus (tb_rel; done)))
  | (with_reducible apply go_enrL; (focus (tb_rel; done)))
  | (with_reducible apply go_enrT; (focus (tb_rel; done)))
  | with_reducible refine go_prop ?_
  | with_reducible refine go_knr0 ?_
  | (with_reducible apply go_knr; (focus (with_unfolding_all exact rfl; done)); (focus (simp only [kSw2, kRev3, kId, List.nil_append, List.cons_append]; exact rfl)))
  | with_reducible refine go_mkn ?_
  | (with_reducible apply go_mkr; (focus (tb_rel; done)); (focus (with_unfolding_all exact rfl; done)))
  | with_reducible refine go_fld ?_
  | (with_reducible apply go_flr; (focus (tb_rel; done)); (focus (with_reducible assumption; done)); (focus (with_reducible assumption; done)); (focus (with_unfolding_all exact rfl; done)))
  | (with_reducible apply go_prr; (focus (tb_rel; done)))
  | (with_reducible apply go_mer; (focus (tb_rel; done)); (focus (with_unfolding_all exact rfl; done)))
  | with_reducible refine go_sfld ?_
  | (with_reducible apply go_sfr; (focus (tb_rel; done)); (focus (with_reducible assumption; done)); (focus (with_reducible assumption; done)); (focus (with_unfolding_all exact Nat.le_of_ble_eq_true rfl; done)); (focus (with_unfolding_all exact rfl; done)); intros)
  | with_reducible refine go_revt ?_
  | with_reducible refine go_make0 ?_
  | (focus (with_reducible refine go_aug (x := ?_) ?_ ?_; rotate_left; (focus (with_unfolding_all exact rfl))))
  | (focus (with_reducible refine go_augk (σ' := ?_) ?_ ?_; rotate_left; (focus (simp only [List.set_cons_succ, List.set_cons_zero]; exact rfl))))
  | with_reducible refine go_min2 ?_
  | with_reducible refine go_int1 ?_
  | with_reducible refine go_max2 ?_
  | with_reducible refine go_intB ?_
  | with_reducible refine go_absN ?_
  | with_reducible refine go_isN ?_
  | with_reducible refine go_notN ?_
  | (with_reducible apply go_rvt; (focus (tb_rel; done)); (focus (simp only [List.reverse_cons, List.reverse_nil, List.nil_append, List.cons_append]; exact rfl)); intros)
  | (with_reducible apply go_reprNm; (focus (tb_rel; done)); (focus (with_reducible assumption; done)))
  | (with_reducible apply go_reprPr; (focus (nest_cls; done)); (focus (lcg_src; done)); (focus (lcg_src; done)))
  | with_reducible refine go_sl ?_
  | with_reducible refine go_part ?_
  | with_reducible refine go_nopart ?_
  | (with_reducible apply go_gtup; (focus (tb_rel; done)); (focus (with_unfolding_all exact rfl; done)))
  | (with_reducible apply go_gunl; (focus (tb_rel; done)); (focus (with_unfolding_all exact rfl; done)))
  | with_reducible refine go_gcons ?_
  | with_reducible refine go_gnil ?_
  | with_reducible refine go_addN ?_
  | with_reducible refine go_ltN ?_
  | with_reducible refine go_leN ?_
  | with_reducible refine go_gtN ?_
  | with_reducible refine go_geN ?_
  | (with_reducible apply go_subN; (focus (omega; done)))
  | with_reducible refine go_rI0 ?_
  | (with_reducible apply go_mulN; (focus (omega; done)))
  | (with_reducible apply go_modN; (focus (omega; done)))
  | (with_reducible apply go_divN; (focus (omega; done)))
  | (with_reducible apply go_powN; (focus (with_unfolding_all decide; done)))
  | with_reducible refine go_rU ?_
  | with_reducible refine go_eqN ?_
  | with_reducible refine go_neN ?_
  | with_reducible refine go_isB ?_
  | with_reducible refine go_notB ?_
  | with_reducible refine go_eqS ?_
  | with_reducible refine go_neS ?_
  | with_reducible refine go_eqB ?_
  | with_reducible refine go_eqI ?_
  | with_reducible refine go_neI ?_
  | (with_reducible apply go_ixt; (focus (tb_rel; done)); (focus (none_booked; done)))
  | (with_reducible apply go_ixl; (focus (tb_rel; done)); (focus (none_booked; done)))
  | (with_reducible apply go_lent; (focus (tb_rel; done)))
  | (with_reducible apply go_lenNm; (focus (tb_rel; done)))
  | (with_reducible apply go_isiNm; (focus (tb_rel; done)))
  | (with_reducible apply go_lenl; (focus (tb_rel; done)))
  | (with_reducible apply go_catA; (focus (tb_rel; done)); (focus (tb_rel; done)); (focus (lcg_sub; done)); intros)
  | (with_reducible apply go_slaT; (focus (tb_rel; done)); intros)
  | (with_reducible apply go_slaD; (focus (tb_rel; done)); intros)
  | (with_reducible apply go_rep; (focus (tb_rel; done)); (focus (lcg_src; done)); intros)
  | (with_reducible apply go_tupofl; (focus (tb_rel; done)); intros)
  | (with_reducible apply go_sllT; (focus (tb_rel; done)); intros)
  | (with_reducible apply go_sllD; (focus (tb_rel; done)); intros)
  | (with_reducible apply go_cat; (focus (tb_rel; done)); (focus (tb_rel; done)); (focus (lcg_sub; done)); intros)
  | (with_reducible apply go_eqP; with_reducible assumption; (focus (tb_rel; done)); (focus (tb_rel; done)))
  | (with_reducible apply go_neP; with_reducible assumption; (focus (tb_rel; done)); (focus (tb_rel; done)))
  | (with_reducible apply go_mep; (focus (tb_rel; done)); (focus decide); (focus decide); (focus decide))
  | (with_reducible apply c_drawN; (focus (tb_rel; done)); (focus (lcg_src; done)); (focus (lcg_src; done)); intros)
  | (with_reducible apply c_pick; (focus (tb_rel; done)); (focus (tlg_ne; done)); (focus (tb_rel; done)); (focus (lcg_src; done)); (focus (lcg_src; done)); intros)
  | (with_reducible apply c_rounds; (focus (tb_rel; done)); intros)
  | with_reducible refine go_dget ?_
  | with_reducible refine go_dgr2 ?_
  | with_reducible refine go_dput ?_
  | with_reducible refine go_dpr2 ?_
  | with_reducible refine go_dpt ?_
  | with_reducible refine go_pnil ?_
  | with_reducible refine go_pcons ?_
  | with_reducible refine go_gsub ?_
  | with_reducible refine go_sir ?_
  | with_reducible refine go_lrg ?_
  | with_reducible refine go_rgt2 ?_
  | with_reducible refine go_rge ?_
  | with_reducible refine go_revl ?_
  | (with_reducible apply go_dgk; (focus (tb_rel; done)); with_reducible assumption)
  | (with_reducible apply go_dpk; (focus (tb_rel; done)); (focus (lcg_sub; done)); intros)
  | (with_reducible apply go_disp; intros)
  | (with_reducible apply go_dsk2; (focus (tb_rel; done)); intros)
  | (with_reducible apply go_lrr; (focus (omega; done)); (focus (omega; done)); intros)
  | (with_reducible apply go_rvl; (focus (tb_rel; done)); intros)
  | fail "go"))
theorem ok_rounds {f : Addr} {fd : FuncData} (F : Df K "_law_rounds" "_law_rounds" s_rounds [] f fd) (B : Blt mg) (cDr : Ca P w K mg base 1 "_law_draw" sp_draw []) (cPk : Ca P w K mg base 2 "_law_pick" (sp_pick K) []) : FnOk P w K mg base CX0 3 f fd ["_law_pot_here"] (sp_rounds K) := by
  refine dfOk F sc_rounds (fun vs H Q E h => ?_) (fun cdv A outer s H vs Q E hr h => ?_)
  · obtain ⟨p, rfl, _⟩ := h
    rfl
  · obtain ⟨p, rfl, hp, q⟩ := h
    refine ⟨_, (pss_cons (ps_par (i := 1) (j := 2) (by rfl) sc_rounds.nd rfl rfl (by decide) rfl rfl (pa_cons (pe_op op_add pe_int (pe_ca cDr hr (by decide) (by rfl) (pa_cons (pv 0) (pa_cons pe_int pa_nil)))) (pa_cons (pe_op op_add pe_int (pe_ca cDr hr (by decide) (by rfl) (pa_cons (pv 0) (pa_cons pe_int pa_nil)))) pa_nil)) (by rfl))
  (pss_cons (ps_par (i := 3) (j := 4) (by rfl) sc_rounds.nd rfl rfl (by decide) rfl rfl (pa_cons (pe_tup (pa_cons pe_str (pa_cons (pv 1) pa_nil))) (pa_cons (pe_tup (pa_cons pe_str (pa_cons (pv 1) pa_nil))) pa_nil)) (by rfl))
  (pss_cons (ps_set (i := 5) sc_rounds.nd rfl (Or.inl rfl) (pe_lst (pa_cons (pe_lst (pa_cons (pe_lst (pa_cons (pv 3) (pa_cons (pv 4) pa_nil))) pa_nil)) (pa_cons (pe_lst (pa_cons (pe_lst (pa_cons (pv 4) (pa_cons (pv 3) pa_nil))) pa_nil)) (pa_cons (pe_lst (pa_cons (pe_lst (pa_cons (pv 3) pa_nil)) (pa_cons (pe_lst (pa_cons (pv 4) pa_nil)) pa_nil))) (pa_cons (pe_lst (pa_cons (pe_lst (pa_cons (pv 4) pa_nil)) (pa_cons (pe_lst (pa_cons (pv 3) pa_nil)) pa_nil))) pa_nil))))))
  (pss_cons (ps_expr (pe_bm' PySem.F.plainAttrs_list PySem.F.slot_list_append PySem.F.type_list_append mt_append (pv 5) (pa_cons (pe_lst (pa_cons (pe_lst (pa_cons (pe_tup (pa_cons pe_str (pa_cons pe_int pa_nil))) (pa_cons (pe_tup (pa_cons pe_str (pa_cons pe_int pa_nil))) (pa_cons (pe_tup (pa_cons pe_str (pa_cons pe_int pa_nil))) pa_nil)))) (pa_cons (pe_lst (pa_cons (pe_tup (pa_cons pe_str (pa_cons pe_int pa_nil))) (pa_cons (pe_tup (pa_cons pe_str (pa_cons pe_int pa_nil))) (pa_cons (pe_tup (pa_cons pe_str (pa_cons pe_int pa_nil))) pa_nil)))) pa_nil))) pa_nil)))
  (pss_cons (ps_expr (pe_bm' PySem.F.plainAttrs_list PySem.F.slot_list_append PySem.F.type_list_append mt_append (pv 5) (pa_cons (pe_lst (pa_cons (pe_lst (pa_cons (pv 3) pa_nil)) (pa_cons (pe_lst (pa_cons (pe_tup (pa_cons pe_str (pa_cons (pv 2) pa_nil))) pa_nil)) (pa_cons (pe_lst (pa_cons (pv 4) (pa_cons (pe_tup (pa_cons pe_str (pa_cons (pv 2) pa_nil))) pa_nil))) pa_nil)))) pa_nil)))
  (pss_cons (ps_expr (pe_bm' PySem.F.plainAttrs_list PySem.F.slot_list_append PySem.F.type_list_append mt_append (pv 5) (pa_cons (pe_lst (pa_cons (pe_lst (pa_cons (pe_tup (pa_cons pe_str (pa_cons pe_int pa_nil))) (pa_cons (pe_tup (pa_cons pe_str (pa_cons pe_int pa_nil))) pa_nil))) (pa_cons (pe_lst (pa_cons (pe_tup (pa_cons pe_str (pa_cons pe_int pa_nil))) pa_nil)) pa_nil))) pa_nil)))
  (pss_cons (ps_expr (pe_bm' PySem.F.plainAttrs_list PySem.F.slot_list_append PySem.F.type_list_append mt_append (pv 5) (pa_cons (pe_lst (pa_cons (pe_lst (pa_cons (pe_tup (pa_cons pe_str (pa_cons pe_int pa_nil))) (pa_cons (pe_tup (pa_cons pe_str (pa_cons pe_int pa_nil))) pa_nil))) (pa_cons (pe_lst (pa_cons (pe_tup (pa_cons pe_str (pa_cons pe_int pa_nil))) (pa_cons (pe_tup (pa_cons pe_str (pa_cons pe_int pa_nil))) pa_nil))) pa_nil))) pa_nil)))
  (pss_cons (ps_expr (pe_bm' PySem.F.plainAttrs_list PySem.F.slot_list_append PySem.F.type_list_append mt_append (pv 5) (pa_cons (pe_op op_rep (pe_lst (pa_cons (pe_lst (pa_cons (pv 3) (pa_cons (pv 4) pa_nil))) pa_nil)) (pe_op op_add pe_int (pe_ca cDr hr (by decide) (by rfl) (pa_cons (pv 0) (pa_cons pe_int pa_nil))))) pa_nil)))
  (pss_one (ps_ret (pe_ca cPk hr (by decide) (by rfl) (pa_cons (pv 0) (pa_cons (pv 5) pa_nil))))))))))))), ?_⟩
    refine go_start (σ := [some _, none, none, none, none, none]) rfl ?_
    walk_at "go"
    rename_i m G1 lm q1 b1 k G2 lk q2 b2 o1 H1 n1 z1 e1 o2 H2 n2 z2 e2 a1 H3 n3 z3 e3 i1 H4 n4 z4 e4 a2 H5 n5 z5 e5 i2 H6 n6 z6 e6 a3 H7 n7 z7 e7 a4 H8 n8 z8 e8 i3 H9 n9 z9 e9 a5 H10 n10 z10 e10 a6 H11 n11 z11 e11 i4 H12 n12 z12 e12 s1 H13 n13 z13 e13 c1 J1 m1 y1 f1 c2 J2 m2 y2 f2 c3 J3 m3 y3 f3 u1 J4 m4 y4 f4 c4 J5 m5 y5 f5 c5 J6 m6 y6 f6 c6 J7 m7 y7 f7 u2 J8 m8 y8 f8 i5 J9 m9 y9 f9
    obtain ⟨r1, r2, r3, r4⟩ := rok1 m lm
    have sp : s1 ≠ p := by
      have : Pot H12 p := by tb_rel
      exact this.ne n13
    have n0 : H s1 = none := by
      cases h : H s1 with
      | none => rfl
      | some o =>
        have b : Bu p H H12 := by tb_rel
        rw [b _ _ sp h] at n13
        cases n13
    have av : ∀ {Hx : Hp} {q : Addr} {o : HO}, Pot Hx p → Hx q = none → H12 q = some o → q ∉ [p, s1] := fun a b c => av_old a b c n13
    have sx : Sx K H H13 p s1 o1 o2 (2 + m) [.ref i1, .ref i2, .ref i3, .ref i4] := by
      refine ⟨by tb_rel, by tb_rel, ⟨e13, fun x hx => ?_⟩, by tb_rel, by tb_rel⟩
      simp only [List.mem_cons, List.not_mem_nil, or_false] at hx
      rcases hx with rfl | rfl | rfl | rfl
      · exact ⟨_, rn1 (av (by tb_rel) n4 (by tb_rel)) (by tb_rel) (av (by tb_rel) n3 (by tb_rel)) (by tb_rel) (.cons (tE (by tb_rel)) (.cons (tN (by tb_rel)) .nil)), r1⟩
      · exact ⟨_, rn1 (av (by tb_rel) n6 (by tb_rel)) (by tb_rel) (av (by tb_rel) n5 (by tb_rel)) (by tb_rel) (.cons (tN (by tb_rel)) (.cons (tE (by tb_rel)) .nil)), r2⟩
      · exact ⟨_, rn2 (av (by tb_rel) n9 (by tb_rel)) (by tb_rel) (av (by tb_rel) n7 (by tb_rel)) (by tb_rel) (.cons (tE (by tb_rel)) .nil) (av (by tb_rel) n8 (by tb_rel)) (by tb_rel) (.cons (tN (by tb_rel)) .nil), r3⟩
      · exact ⟨_, rn2 (av (by tb_rel) n12 (by tb_rel)) (by tb_rel) (av (by tb_rel) n10 (by tb_rel)) (by tb_rel) (.cons (tN (by tb_rel)) .nil) (av (by tb_rel) n11 (by tb_rel)) (by tb_rel) (.cons (tE (by tb_rel)) .nil), r4⟩
    have hs := e13
    have hp9 : Pot J9 p := by tb_rel
    refine go_app (by tb_rel) (by show 4 < sizeLine; decide) ?_
    have nv : ∀ {Hx : Hp} {q : Addr}, Pot Hx p → Hx s1 = some (.lst [.ref i1, .ref i2, .ref i3, .ref i4]) → Hx q = none → q ∉ [p, s1] := fun a b c => av_new a b c
    have sx2 := (sx.same (show Same H13 J9 by tb_rel)).app sp n0 (rn2 (r1 := [(0, 2), (1, 2), (0, 2)]) (r2 := [(1, 2), (0, 2), (1, 2)]) (nv (by tb_rel) (by tb_rel) m9) (by tb_rel) (nv (by tb_rel) (by tb_rel) m4) (by tb_rel) (.cons (tE (by tb_rel)) (.cons (tN (by tb_rel)) (.cons (tE (by tb_rel)) .nil))) (nv (by tb_rel) (by tb_rel) m8) (by tb_rel) (.cons (tN (by tb_rel)) (.cons (tE (by tb_rel)) (.cons (tN (by tb_rel)) .nil)))) (by decide)
    generalize upd J9 s1 _ = H14 at sx2 ⊢
    clear av nv sx hs hp9 f1 f2 f3 f4 f5 f6 f7 f8 f9 e1 e2 e3 e4 e5 e6 e7 e8 e9 e10 e11 e12 e13
    have p14 := sx2.pot
    have e1 := sx2.e1
    have e2 := sx2.e2
    have hs := sx2.sm.at_
    walk_at "go"
    rename_i w1 J1 m1 y1 f1 w2 J2 m2 y2 f2 w3 J3 m3 y3 f3 w4 J4 m4 y4 f4 w5 J5 m5 y5 f5 i6 J6 m6 y6 f6
    refine go_app (by tb_rel) (by show 5 < sizeLine; decide) ?_
    have nv : ∀ {Hx : Hp} {q : Addr}, Pot Hx p → Hx s1 = some (.lst ([.ref i1, .ref i2, .ref i3, .ref i4] ++ [.ref i5])) → Hx q = none → q ∉ [p, s1] := fun a b c => av_new a b c
    have sx3 := (sx2.same (show Same H14 J6 by tb_rel)).app sp n0 (rn3 (r1 := [(0, 2 + m)]) (r2 := [(1, 2 + k)]) (r3 := [(1, 2 + m), (0, 2 + k)]) (nv (by tb_rel) (by tb_rel) m6) (by tb_rel) (nv (by tb_rel) (by tb_rel) m1) (by tb_rel) (.cons (tE (by tb_rel)) .nil) (nv (by tb_rel) (by tb_rel) m3) (by tb_rel) (.cons (tN (by tb_rel)) .nil) (nv (by tb_rel) (by tb_rel) m5) (by tb_rel) (.cons (tN (by tb_rel)) (.cons (tE (by tb_rel)) .nil))) (rok2 m lm k lk).1
    generalize upd J6 s1 _ = H15 at sx3 ⊢
    clear nv sx2 hs p14 f1 f2 f3 f4 f5 f6 e1 e2
    have p15 := sx3.pot
    have e1 := sx3.e1
    have e2 := sx3.e2
    have hs := sx3.sm.at_
    walk_at "go"
    rename_i w6 J1 m1 y1 f1 w7 J2 m2 y2 f2 w8 J3 m3 y3 f3 w9 J4 m4 y4 f4 w10 J5 m5 y5 f5 i7 J6 m6 y6 f6
    refine go_app (by tb_rel) (by show 6 < sizeLine; decide) ?_
    have nv : ∀ {Hx : Hp} {q : Addr}, Pot Hx p → Hx s1 = some (.lst ([.ref i1, .ref i2, .ref i3, .ref i4] ++ [.ref i5] ++ [.ref i6])) → Hx q = none → q ∉ [p, s1] := fun a b c => av_new a b c
    have sx4 := (sx3.same (show Same H15 J6 by tb_rel)).app sp n0 (rn2 (r1 := [(0, 2), (0, 2)]) (r2 := [(1, 4)]) (nv (by tb_rel) (by tb_rel) m6) (by tb_rel) (nv (by tb_rel) (by tb_rel) m3) (by tb_rel) (.cons (tE (by tb_rel)) (.cons (tE (by tb_rel)) .nil)) (nv (by tb_rel) (by tb_rel) m5) (by tb_rel) (.cons (tN (by tb_rel)) .nil)) (by decide)
    generalize upd J6 s1 _ = H16 at sx4 ⊢
    clear nv sx3 hs p15 f1 f2 f3 f4 f5 f6 e1 e2
    have p16 := sx4.pot
    have e1 := sx4.e1
    have e2 := sx4.e2
    have hs := sx4.sm.at_
    walk_at "go"
    rename_i x1 J1 m1 y1 f1 x2 J2 m2 y2 f2 x3 J3 m3 y3 f3 x4 J4 m4 y4 f4 x5 J5 m5 y5 f5 x6 J6 m6 y6 f6 i8 J7 m7 y7 f7
    refine go_app (by tb_rel) (by show 7 < sizeLine; decide) ?_
    have nv : ∀ {Hx : Hp} {q : Addr}, Pot Hx p → Hx s1 = some (.lst ([.ref i1, .ref i2, .ref i3, .ref i4] ++ [.ref i5] ++ [.ref i6] ++ [.ref i7])) → Hx q = none → q ∉ [p, s1] := fun a b c => av_new a b c
    have sx5 := (sx4.same (show Same H16 J7 by tb_rel)).app sp n0 (rn2 (r1 := [(0, 3), (1, 2)]) (r2 := [(1, 3), (0, 2)]) (nv (by tb_rel) (by tb_rel) m7) (by tb_rel) (nv (by tb_rel) (by tb_rel) m3) (by tb_rel) (.cons (tE (by tb_rel)) (.cons (tN (by tb_rel)) .nil)) (nv (by tb_rel) (by tb_rel) m6) (by tb_rel) (.cons (tN (by tb_rel)) (.cons (tE (by tb_rel)) .nil))) (by decide)
    generalize upd J7 s1 _ = H17 at sx5 ⊢
    clear nv sx4 hs p16 f1 f2 f3 f4 f5 f6 f7 e1 e2
    have p17 := sx5.pot
    have e1 := sx5.e1
    have e2 := sx5.e2
    have hs := sx5.sm.at_
    walk_at "go"
    rename_i x7 J1 m1 y1 f1 x8 J2 m2 y2 f2 d J3 ld p3 b3 i9 J4 m4 y4 f4
    have hs2 : J2 s1 = some (.lst ([.ref i1, .ref i2, .ref i3, .ref i4] ++ [.ref i5] ++ [.ref i6] ++ [.ref i7] ++ [.ref i8])) := by tb_rel
    have hs3 := b3 _ _ sp hs2
    have hs4 := y4 _ _ hs3
    have q7 : x7 ∉ [p, s1] := av_new (by tb_rel) hs m1
    have f7 : J4 x7 = some (.lst [.ref o1, .ref o2]) := y4 _ _ (b3 _ _ (fun z => q7 (by rw [z]; simp)) (y2 _ _ f1))
    have sxa := ((sx5.same (show Same H17 J2 by tb_rel)).buu sp b3 p3).same y4
    have g1 := sxa.e1
    have g2 := sxa.e2
    refine go_app hs4 (by show 8 < sizeLine; decide) ?_
    have hr9 : Rn K J4 [p, s1] (.ref i9) (List.replicate (1 + d) [(0, 2 + m), (1, 2 + m)]) := by
      refine ⟨i9, _, rfl, av_new p3 hs3 m4, f4, ?_⟩
      rw [List.map_replicate]
      exact LLs.rep q7 f7 (.cons (tE g1) (.cons (tN g2) .nil)) (nl_cuts [(0, 2 + m), (1, 2 + m)]) _
    have sx6 := sxa.app sp n0 hr9 (rok2 m lm d ld).2
    generalize upd J4 s1 _ = H18 at sx6 ⊢
    clear sx5 sxa hs hs2 hs3 hs4 p17 f1 f2 f4 f7 e1 e2 g1 g2 hr9
    have p18 := sx6.pot
    have hs := sx6.sm.at_
    walk_at "go"
    rename_i v J9 hv p9 b9
    obtain ⟨rs, hrn, ok⟩ := sx6.sm.all v hv
    obtain ⟨ps, ep⟩ := p18.lst
    exact q v rs _ ((hrn.bu b9 (by simp) ep).sub (by simp)) ok p9 (sx6.bu.trans b9)
end
end T
set_option Elab.async false
set_option maxRecDepth 100000
set_option maxHeartbeats 4000000
namespace T
open PySem L2 Mv
abbrev s_lplan : Stmt := top 70
theorem sc_lplan : FnScope ["_law_rounds_here"] ["_law_rounds_here"] (defScope s_lplan) := ⟨rfl, rfl, rfl, by decide +kernel, rfl, by decide +kernel, by decide +kernel⟩
abbrev s_llength : Stmt := top 71
theorem sc_llength : FnScope ["_law_pot_here", "_law_great"] ["_law_pot_here"] (defScope s_llength) := ⟨rfl, rfl, rfl, by decide +kernel, rfl, by decide +kernel, by decide +kernel⟩
abbrev s_lreach : Stmt := top 72
theorem sc_lreach : FnScope ["_law_pot_here", "_law_bottom"] ["_law_pot_here"] (defScope s_lreach) := ⟨rfl, rfl, rfl, by decide +kernel, rfl, by decide +kernel, by decide +kernel⟩
abbrev s_passed : Stmt := top 73
theorem sc_passed : FnScope ["_law_pot_here", "_law_pair"] ["_law_pot_here", "_law_pair"] (defScope s_passed) := ⟨rfl, rfl, rfl, by decide +kernel, rfl, by decide +kernel, by decide +kernel⟩
section
variable {P : Program} {w : World} {K : PySem.W.Frag} {mg : Str → Option Value} {base : Heap} {C AX CR CM CG KD : Addr}
def MkR1 (C : Addr) (sp : Sp) (E : XK) (Q : VK) : List V → Hp → Prop := fun vs H1 => ∀ x dx, H1 x = none → H1 dx = none → dx ≠ x → sp (.ref x :: vs) (upd (upd H1 dx (.own x)) x (.ins C dx [])) (fun v H2 => v = .non ∧ Q (.ref x) H2) E
theorem go_mkr1 {t : TA} {σ : L2.St} {H : Hp} {Q : VK} {sp : Sp} {E : XK} (q : t σ H (MkR1 C sp E Q)) : StX.tMakeR C sp E t σ H Q := q
def sp_lplan (K : PySem.W.Frag) (C : Addr) : Sp := fun vs H Q _ => ∃ (v : V) (rs : List (List Pm.Cut)), vs = [v] ∧ Dp K H v (pRds rs) ∧ Pm.RdsOk rs ∧ ∀ u H', Same H H' → PlanAt K C H' u rs → Q u H'
theorem c_lplan {K : PySem.W.Frag} {C : Addr} {v : V} {rs : List (List Pm.Cut)} {H : Hp} {Q : VK} {E : XK} (h0 : Dp K H v (pRds rs)) (h1 : Pm.RdsOk rs) (q : ∀ u H', Same H H' → PlanAt K C H' u rs → Q u H') : sp_lplan K C [v] H Q E := ⟨_, _, rfl, h0, h1, q⟩
/-- a pair of numbers as a tuple -/
abbrev pPr (a b : Nat) : PyData := .tuple [.int (a : Int), .int (b : Int)]
def sp_llength (K : PySem.W.Frag) : Sp := fun vs H Q _ => ∃ (p : Addr), vs = [.ref p] ∧ Pot H p ∧ ∀ (v : V) (a b : Nat) (H' : Hp), Dp K H' v (pPr a b) → 0 < a → 0 < b → a < 2 ^ 70 → b < 2 ^ 70 → Pot H' p → Bu p H H' → Q v H'
theorem c_llength {K : PySem.W.Frag} {p : Addr} {H : Hp} {Q : VK} {E : XK} (h0 : Pot H p) (q : ∀ (v : V) (a b : Nat) (H' : Hp), Dp K H' v (pPr a b) → 0 < a → 0 < b → a < 2 ^ 70 → b < 2 ^ 70 → Pot H' p → Bu p H H' → Q v H') : sp_llength K [.ref p] H Q E := ⟨_, rfl, h0, q⟩
def sp_lreach (K : PySem.W.Frag) : Sp := fun vs H Q _ => ∃ (p : Addr), vs = [.ref p] ∧ Pot H p ∧ ∀ (v : V) (a b : Nat) (H' : Hp), Dp K H' v (pPr a b) → 0 < a → a ≤ b → b ≤ 12 → Pot H' p → Bu p H H' → Q v H'
theorem c_lreach {K : PySem.W.Frag} {p : Addr} {H : Hp} {Q : VK} {E : XK} (h0 : Pot H p) (q : ∀ (v : V) (a b : Nat) (H' : Hp), Dp K H' v (pPr a b) → 0 < a → a ≤ b → b ≤ 12 → Pot H' p → Bu p H H' → Q v H') : sp_lreach K [.ref p] H Q E := ⟨_, rfl, h0, q⟩
def sp_passed (K : PySem.W.Frag) (CR : Addr) : Sp := fun vs H Q _ => ∃ (p : Addr) (v : V) (a b : Nat), vs = [.ref p, v] ∧ Pot H p ∧ Dp K H v (pPr a b) ∧ 0 < b ∧ b < 2 ^ 70 ∧ ∀ (u : V) (H' : Hp), NumAt CR H' u (Rat.divInt a b) → Pot H' p → Bu p H H' → Q u H'
theorem c_passed {K : PySem.W.Frag} {CR : Addr} {p : Addr} {v : V} {a b : Nat} {H : Hp} {Q : VK} {E : XK} (h0 : Pot H p) (h1 : Dp K H v (pPr a b)) (h2 : 0 < b) (h3 : b < 2 ^ 70) (q : ∀ (u : V) (H' : Hp), NumAt CR H' u (Rat.divInt a b) → Pot H' p → Bu p H H' → Q u H') : sp_passed K CR [.ref p, v] H Q E := ⟨_, _, _, _, rfl, h0, h1, h2, h3, q⟩
local macro_rules | `(tactic| tb_rel) => `(tactic| repeat (first
  | with_reducible assumption
  | with_reducible exact Dp.int _
  | with_reducible exact Dp.str _
  | with_reducible exact Dp.bl _
  | with_reducible exact Dp.non
  | (with_reducible apply SqT.of; with_reducible assumption)
  | (with_reducible apply SqL.of; with_reducible assumption)
  | (with_reducible apply up_dp; with_reducible assumption)
  | (with_reducible apply up_sqt; with_reducible assumption)
  | (with_reducible apply up_sql; with_reducible assumption)
  | (with_reducible apply up_get; with_reducible assumption)
  | (with_reducible apply up_pot; with_reducible assumption)
  | with_reducible exact Same.refl _
  | with_reducible exact Bu.refl _ _
  | (with_reducible apply up_same; with_reducible assumption)
  | (with_reducible apply up_bu; with_reducible assumption)
  | (with_reducible apply bu_bu; with_reducible assumption)
  | (with_reducible apply free_of; with_reducible assumption)
  | (with_reducible apply mi_fr; with_reducible assumption; (focus (tb_rel; done)))
  | (with_reducible apply mi_dp; with_reducible assumption)
  | (with_reducible apply mi_sqt; with_reducible assumption)
  | (with_reducible apply mi_sql; with_reducible assumption)
  | (with_reducible apply mi_gett; with_reducible assumption)
  | (with_reducible apply mi_getl; with_reducible assumption)
  | (with_reducible apply mi_pot; with_reducible assumption)
  | (with_reducible apply mi_refl; with_reducible assumption; (focus (with_unfolding_all exact rfl)))
  | (with_reducible apply up_mi; with_reducible assumption)
  | (with_reducible apply mi_mi; with_reducible assumption)
  | (with_reducible apply mi_bu; with_reducible assumption)
  | with_reducible exact num_int _
  | (with_reducible apply rat_of; with_reducible assumption)
  | (with_reducible apply num_rat; (focus (tb_rel; done)))
  | (with_reducible apply up_plan; with_reducible assumption)
  | (with_reducible apply bu_plan; with_reducible assumption; (focus (tb_rel; done)))
  | (with_reducible apply mi_plan; with_reducible assumption; (focus (lcg_src; done)))
  | (with_reducible apply up_rat; with_reducible assumption)
  | (with_reducible apply up_num; with_reducible assumption)
  | (with_reducible apply mi_rat; with_reducible assumption; (focus (lcg_src; done)))
  | (with_reducible apply mi_num; with_reducible assumption; (focus (lcg_src; done)))
  | (with_reducible apply bu_rat; with_reducible assumption; (focus (tb_rel; done)))
  | (with_reducible apply bu_num; with_reducible assumption; (focus (tb_rel; done)))
  | (with_reducible apply up_bd; with_reducible assumption)
  | (with_reducible apply bd_bd; with_reducible assumption)
  | (with_reducible apply bd_same; with_reducible assumption; (focus (tb_rel; done)))
  | (with_reducible apply bd_bup; with_reducible assumption; (focus (tb_rel; done)))
  | (with_reducible apply bu_getd; with_reducible assumption; (focus (tb_rel; done)))
  | (with_reducible apply bd_dp; with_reducible assumption)
  | (with_reducible apply bd_sqt; with_reducible assumption)
  | (with_reducible apply bd_sql; with_reducible assumption)
  | (with_reducible apply bd_gett; with_reducible assumption)
  | (with_reducible apply bd_getl; with_reducible assumption)
  | (with_reducible apply bd_geti; with_reducible assumption)
  | (with_reducible apply bd_pot; with_reducible assumption)
  | (with_reducible apply pf_dp; with_reducible assumption; (focus (tb_rel; done)); (focus (lcg_src; done)))
  | (with_reducible apply bu_gett; with_reducible assumption; (focus (tb_rel; done)))
  | (with_reducible apply bu_geti; with_reducible assumption; (focus (tb_rel; done)))
  | (with_reducible apply bu_get; with_reducible assumption; (focus (tlg_ne; done)))
  | (with_reducible apply bu_sqt; with_reducible assumption; (focus (tb_rel; done)))
  | (with_reducible apply bu_sql; with_reducible assumption; (focus (tlg_ne; done)))
  | (with_reducible apply bu_dp; with_reducible assumption; (focus (tb_rel; done)); (focus (lcg_src; done)))
  | fail "up"))
local macro_rules | `(tactic| tlg_ne) => `(tactic| first
  | with_reducible assumption
  | (with_reducible apply pot_ne; with_reducible assumption; (focus (tb_rel; done)))
  | fail "ne")
local macro_rules | `(tactic| lcg_src) => `(tactic| first
  | with_reducible assumption
  | with_unfolding_all exact rfl
  | with_unfolding_all decide
  | with_unfolding_all exact Nat.ne_of_beq_eq_false rfl
  | (apply_assumption; done)
  | omega
  | (simp; done)
  | (simp; omega)
  | fail "sd")
local macro_rules | `(tactic| lcg_sub) => `(tactic| first
  | (unfold sizeLine; omega)
  | (simp only [List.length_cons, List.length_nil, List.length_append, List.length_map, List.length_replicate, List.length_take, List.length_drop]; unfold sizeLine; omega)
  | (simp; unfold sizeLine; omega)
  | fail "sz")
local macro_rules | `(tactic| nest_cls) => `(tactic| first
  | (tb_rel; done)
  | (with_reducible apply nmI; (focus (tb_rel; done)))
  | (with_reducible apply d_tup; (focus (tb_rel; done)); (focus (lsm_bools; done)))
  | (with_reducible apply d_lst; (focus (tb_rel; done)); (focus (lsm_bools; done)))
  | fail "dp")
local macro_rules | `(tactic| lsm_bools) => `(tactic| repeat (first
  | with_reducible exact DpAll.nil
  | with_reducible assumption
  | (with_reducible apply DpAll.cons; (focus (nest_cls; done)))
  | fail "dpa"))
local macro_rules | `(tactic| none_booked) => `(tactic| first | with_unfolding_all exact rfl | (with_reducible apply atI_nat; with_reducible assumption) | fail "ix")
local macro_rules | `(tactic| walk_at "go") => `(tactic| repeat (first
  | (focus (with_reducible refine go_var (v := ?_) ?_ ?_; rotate_left; (focus (with_unfolding_all exact rfl))))
  | with_reducible refine go_seq ?_
  | with_reducible refine go_cN ?_
  | with_reducible refine go_c ?_
  | with_reducible refine go_op ?_
  | with_reducible refine go_nil ?_
  | with_reducible refine go_cons ?_
  | with_reducible refine go_cb ?_
  | with_reducible refine go_call0 ?_
  | with_reducible refine go_asg ?_
  | (focus (with_reducible refine go_gname (σ' := ?_) ?_ ?_; rotate_left; (focus (simp only [List.set_cons_succ, List.set_cons_zero]; exact rfl))))
  | with_reducible refine go_par ?_
  | (focus (with_reducible refine go_par2 (σ' := ?_) ?_ ?_; rotate_left; (focus (simp only [List.set_cons_succ, List.set_cons_zero]; exact rfl))))
  | with_reducible refine go_ifs ?_
  | with_reducible refine go_test ?_
  | with_reducible refine go_tb ?_
  | with_reducible refine go_asb ?_
  | with_reducible refine go_asi ?_
  | with_reducible refine go_ret ?_
  | with_reducible refine go_retn ?_
  | with_reducible refine go_drop ?_
  | with_reducible refine go_next ?_
  | with_reducible refine go_and ?_
  | with_reducible refine go_or ?_
  | with_reducible refine go_not ?_
  | with_reducible refine go_andv ?_
  | with_reducible refine go_orv ?_
  | with_reducible refine go_notv ?_
  | with_reducible refine go_ife ?_
  | with_reducible refine go_chain ?_
  | with_reducible refine go_if1 ?_
  | with_reducible refine go_if0 ?_
  | with_reducible refine go_ifn1 ?_
  | with_reducible refine go_ifn0 ?_
  | (with_reducible apply go_ift; (focus (first | with_reducible rfl | with_reducible assumption | omega)))
  | (with_reducible apply go_ifnt; (focus (first | with_reducible rfl | with_reducible assumption | omega)))
  | (with_reducible apply go_iff; (focus (first | with_reducible assumption | omega)))
  | (with_reducible apply go_ifnf; (focus (first | with_reducible assumption | omega)))
  | with_reducible refine go_un ?_
  | with_reducible refine go_tup ?_
  | with_reducible refine go_lst ?_
  | (with_reducible apply go_newt; (focus (lcg_sub; done)); intros)
  | (with_reducible apply go_newl; (focus (lcg_sub; done)); intros)
  | with_reducible refine go_meth ?_
  | with_reducible refine go_for ?_
  | with_reducible refine go_lc ?_
  | with_reducible refine go_irng1 ?_
  | with_reducible refine go_irng2 ?_
  | with_reducible refine go_ilist ?_
  | with_reducible refine go_itup ?_
  | with_reducible refine go_izip ?_
  | with_reducible refine go_ienum ?_
  | (with_reducible apply go_rg1; (focus (lcg_src; done)))
  | (with_reducible apply go_rg2; (focus (lcg_src; done)); (focus (lcg_src; done)))
  | (with_reducible apply go_lsr; (focus (tb_rel; done)))
  | (with_reducible apply go_tpr; (focus (tb_rel; done)))
  | (with_reducible apply go_zpr; (focus (tb_rel; done)); (focus (tb_rel; done)))
  | (with_reducible apply go_zprT; (focus (tb_rel; done)); (focus (tb_rel; done)))
  | (with_reducible apply go_enrL; (focus (tb_rel; done)))
  | (with_reducible apply go_enrT; (focus (tb_rel; done)))
  | with_reducible refine go_prop ?_
  | with_reducible refine go_knr0 ?_
  | (with_reducible apply go_knr; (focus (with_unfolding_all exact rfl; done)); (focus (simp only [kSw2, kRev3, kId, List.nil_append, List.cons_append]; exact rfl)))
  | with_reducible refine go_mkn ?_
  | (with_reducible apply go_mkr; (focus (tb_rel; done)); (focus (with_unfolding_all exact rfl; done)))
  | with_reducible refine go_fld ?_
  | (with_reducible apply go_flr; (focus (tb_rel; done)); (focus (with_reducible assumption; done)); (focus (with_reducible assumption; done)); (focus (with_unfolding_all exact rfl; done)))
  | (with_reducible apply go_prr; (focus (tb_rel; done)))
  | (with_reducible apply go_mer; (focus (tb_rel; done)); (focus (with_unfolding_all exact rfl; done)))
  | with_reducible refine go_sfld ?_
  | (with_reducible apply go_sfr; (focus (tb_rel; done)); (focus (with_reducible assumption; done)); (focus (with_reducible assumption; done)); (focus (with_unfolding_all exact Nat.le_of_ble_eq_true rfl; done)); (focus (with_unfolding_all exact rfl; done)); intros)
  | with_reducible refine go_revt ?_
  | with_reducible refine go_make0 ?_
  | (focus (with_reducible refine go_aug (x := ?_) ?_ ?_; rotate_left; (focus (with_unfolding_all exact rfl))))
  | (focus (with_reducible refine go_augk (σ' := ?_) ?_ ?_; rotate_left; (focus (simp only [List.set_cons_succ, List.set_cons_zero]; exact rfl))))
  | with_reducible refine go_min2 ?_
  | with_reducible refine go_int1 ?_
  | with_reducible refine go_max2 ?_
  | with_reducible refine go_intB ?_
  | with_reducible refine go_absN ?_
  | with_reducible refine go_isN ?_
  | with_reducible refine go_notN ?_
  | (with_reducible apply go_rvt; (focus (tb_rel; done)); (focus (simp only [List.reverse_cons, List.reverse_nil, List.nil_append, List.cons_append]; exact rfl)); intros)
  | (with_reducible apply go_reprNm; (focus (tb_rel; done)); (focus (with_reducible assumption; done)))
  | (with_reducible apply go_reprPr; (focus (nest_cls; done)); (focus (lcg_src; done)); (focus (lcg_src; done)))
  | with_reducible refine go_sl ?_
  | with_reducible refine go_part ?_
  | with_reducible refine go_nopart ?_
  | (with_reducible apply go_gtup; (focus (tb_rel; done)); (focus (with_unfolding_all exact rfl; done)))
  | (with_reducible apply go_gunl; (focus (tb_rel; done)); (focus (with_unfolding_all exact rfl; done)))
  | with_reducible refine go_gcons ?_
  | with_reducible refine go_gnil ?_
  | with_reducible refine go_addN ?_
  | with_reducible refine go_ltN ?_
  | with_reducible refine go_leN ?_
  | with_reducible refine go_gtN ?_
  | with_reducible refine go_geN ?_
  | (with_reducible apply go_subN; (focus (omega; done)))
  | with_reducible refine go_rI0 ?_
  | (with_reducible apply go_mulN; (focus (omega; done)))
  | (with_reducible apply go_modN; (focus (omega; done)))
  | (with_reducible apply go_divN; (focus (omega; done)))
  | (with_reducible apply go_powN; (focus (with_unfolding_all decide; done)))
  | with_reducible refine go_rU ?_
  | with_reducible refine go_eqN ?_
  | with_reducible refine go_neN ?_
  | with_reducible refine go_isB ?_
  | with_reducible refine go_notB ?_
  | with_reducible refine go_eqS ?_
  | with_reducible refine go_neS ?_
  | with_reducible refine go_eqB ?_
  | with_reducible refine go_eqI ?_
  | with_reducible refine go_neI ?_
  | (with_reducible apply go_ixt; (focus (tb_rel; done)); (focus (none_booked; done)))
  | (with_reducible apply go_ixl; (focus (tb_rel; done)); (focus (none_booked; done)))
  | (with_reducible apply go_lent; (focus (tb_rel; done)))
  | (with_reducible apply go_lenNm; (focus (tb_rel; done)))
  | (with_reducible apply go_isiNm; (focus (tb_rel; done)))
  | (with_reducible apply go_lenl; (focus (tb_rel; done)))
  | (with_reducible apply go_catA; (focus (tb_rel; done)); (focus (tb_rel; done)); (focus (lcg_sub; done)); intros)
  | (with_reducible apply go_slaT; (focus (tb_rel; done)); intros)
  | (with_reducible apply go_slaD; (focus (tb_rel; done)); intros)
  | (with_reducible apply go_rep; (focus (tb_rel; done)); (focus (lcg_src; done)); intros)
  | (with_reducible apply go_tupofl; (focus (tb_rel; done)); intros)
  | (with_reducible apply go_sllT; (focus (tb_rel; done)); intros)
  | (with_reducible apply go_sllD; (focus (tb_rel; done)); intros)
  | (with_reducible apply go_cat; (focus (tb_rel; done)); (focus (tb_rel; done)); (focus (lcg_sub; done)); intros)
  | (with_reducible apply go_eqP; with_reducible assumption; (focus (tb_rel; done)); (focus (tb_rel; done)))
  | (with_reducible apply go_neP; with_reducible assumption; (focus (tb_rel; done)); (focus (tb_rel; done)))
  | (with_reducible apply go_mkrat; with_reducible assumption; with_reducible assumption; intros)
  | (with_reducible apply go_mkrat1; intros)
  | (with_reducible apply go_merR; (focus (tb_rel; done)); (focus decide); (focus decide))
  | (with_reducible apply go_prR; (focus (tb_rel; done)))
  | (with_reducible apply go_mep; (focus (tb_rel; done)); (focus decide); (focus decide); (focus decide))
  | (with_reducible apply c_drawN; (focus (tb_rel; done)); (focus (lcg_src; done)); (focus (lcg_src; done)); intros)
  | (with_reducible apply c_llength; (focus (tb_rel; done)); intros)
  | (with_reducible apply c_lplan; (focus (nest_cls; done)); (focus (lcg_src; done)); intros)
  | (with_reducible apply c_lreach; (focus (tb_rel; done)); intros)
  | (with_reducible apply c_passed; (focus (tb_rel; done)); (focus (nest_cls; done)); (focus (lcg_src; done)); (focus (lcg_src; done)); intros)
  | (with_reducible apply c_pick; (focus (tb_rel; done)); (focus (tlg_ne; done)); (focus (tb_rel; done)); (focus (lcg_src; done)); (focus (lcg_src; done)); intros)
  | (with_reducible apply c_rinit; (focus (tb_rel; done)); (focus (lcg_src; done)); (focus (lcg_src; done)); intros)
  | with_reducible refine go_dget ?_
  | with_reducible refine go_dgr2 ?_
  | with_reducible refine go_dput ?_
  | with_reducible refine go_dpr2 ?_
  | with_reducible refine go_dpt ?_
  | with_reducible refine go_pnil ?_
  | with_reducible refine go_pcons ?_
  | with_reducible refine go_gsub ?_
  | with_reducible refine go_sir ?_
  | with_reducible refine go_lrg ?_
  | with_reducible refine go_rgt2 ?_
  | with_reducible refine go_rge ?_
  | with_reducible refine go_revl ?_
  | (with_reducible apply go_dgk; (focus (tb_rel; done)); with_reducible assumption)
  | (with_reducible apply go_dpk; (focus (tb_rel; done)); (focus (lcg_sub; done)); intros)
  | (with_reducible apply go_disp; intros)
  | (with_reducible apply go_dsk2; (focus (tb_rel; done)); intros)
  | (with_reducible apply go_lrr; (focus (omega; done)); (focus (omega; done)); intros)
  | (with_reducible apply go_rvl; (focus (tb_rel; done)); intros)
  | with_reducible refine go_mkr1 ?_
  | fail "go"))
theorem ok_lplan {f : Addr} {fd : FuncData} (F : Df K "_law_plan" "_law_plan" s_lplan [] f fd) (B : Blt mg) (cPl : MaR P w K mg base 6 "Plan" C (spMk K C)) : FnOk P w K mg base CX0 8 f fd ["_law_rounds_here"] (sp_lplan K C) := by
  refine dfOk F sc_lplan (fun vs H Q E h => ?_) (fun cdv A outer s H vs Q E hr h => ?_)
  · obtain ⟨v, rs, rfl, _⟩ := h
    rfl
  · obtain ⟨v, rs, rfl, hd, ok, q⟩ := h
    obtain ⟨a, ys, rfl, hs, ha⟩ := hd.lstE
    have hyl : ys.length = rs.length := by rw [ha.len, List.length_map]
    have l1 := ok.1
    have l3 := ok.2.1
    have ers : (rs.map fun r => (true, r)).map Prod.snd = rs := by rw [List.map_map]; exact List.map_id _
    have hz : DpAll K H ys (pPass (rs.map fun r => (true, r))) := by
      unfold pPass
      rw [List.map_map]
      exact ha
    have mk : ∀ vs, vs = ys → MkR1 C (spMk K C) E0 Q vs H := fun vs e => mk_plan (brs := rs.map fun r => (true, r)) (e ▸ hz) (ers.symm ▸ ok) fun u H' s' pa => q u H' s' (ers ▸ pa)
    refine ⟨_, (pss_cons (ps_if (pt_cmpR op_eq (pe_callB call_len_seq' (by rfl) B.len bt_len (pa_cons (pv 0) pa_nil)) pe_int (nomark _))
  (pss_one (ps_ret (pe_mar cPl hr (by decide) (by rfl) (pa_cons (pe_ix ix_list' (pv 0) pe_int (fun _ _ => rfl)) pa_nil))))
  pss_nil)
  (pss_cons (ps_if (pt_cmpR op_eq (pe_callB call_len_seq' (by rfl) B.len bt_len (pa_cons (pv 0) pa_nil)) pe_int (nomark _))
  (pss_one (ps_ret (pe_mar cPl hr (by decide) (by rfl) (pa_cons (pe_ix ix_list' (pv 0) pe_int (fun _ _ => rfl)) (pa_cons (pe_ix ix_list' (pv 0) pe_int (fun _ _ => rfl)) pa_nil)))))
  pss_nil)
  (pss_one (ps_ret (pe_mar cPl hr (by decide) (by rfl) (pa_cons (pe_ix ix_list' (pv 0) pe_int (fun _ _ => rfl)) (pa_cons (pe_ix ix_list' (pv 0) pe_int (fun _ _ => rfl)) (pa_cons (pe_ix ix_list' (pv 0) pe_int (fun _ _ => rfl)) pa_nil)))))))), ?_⟩
    refine go_start (σ := [some _]) rfl ?_
    walk_at "go"
    match ys, hyl, mk, hs with
    | [], hyl, _, _ => exact absurd hyl (by simp; omega)
    | [x0], _, mk, hs =>
      have h1 : [x0].length = 1 := rfl
      walk_at "go"
      exact mk _ rfl
    | [x0, x1], _, mk, hs =>
      have h1 : ¬ [x0, x1].length = 1 := fun z => by cases z
      have h2 : [x0, x1].length = 2 := rfl
      walk_at "go"
      exact mk _ rfl
    | [x0, x1, x2], _, mk, hs =>
      have h1 : ¬ [x0, x1, x2].length = 1 := fun z => by cases z
      have h2 : ¬ [x0, x1, x2].length = 2 := fun z => by cases z
      walk_at "go"
      exact mk _ rfl
    | _ :: _ :: _ :: _ :: _, hyl, _, _ => exact absurd hyl (by simp; omega)
theorem ok_llength {f : Addr} {fd : FuncData} (F : Df K "_law_length" "_law_length" s_llength [] f fd) (B : Blt mg) (cDr : Ca P w K mg base 1 "_law_draw" sp_draw []) (cPk : Ca P w K mg base 2 "_law_pick" (sp_pick K) []) : FnOk P w K mg base CX0 3 f fd ["_law_pot_here"] (sp_llength K) := by
  refine dfOk F sc_llength (fun vs H Q E h => ?_) (fun cdv A outer s H vs Q E hr h => ?_)
  · obtain ⟨p, rfl, _⟩ := h
    rfl
  · obtain ⟨p, rfl, hp, q⟩ := h
    refine ⟨_, (pss_cons (ps_set (i := 1) sc_llength.nd rfl (Or.inl rfl) (pe_tup (pa_cons (pe_op op_add (pe_op op_pow pe_int pe_int) (pe_ca cDr hr (by decide) (by rfl) (pa_cons (pv 0) (pa_cons (pe_op op_pow pe_int pe_int) pa_nil)))) (pa_cons (pe_op op_add pe_int (pe_ca cDr hr (by decide) (by rfl) (pa_cons (pv 0) (pa_cons (pe_op op_pow pe_int pe_int) pa_nil)))) pa_nil))))
  (pss_one (ps_ret (pe_ca cPk hr (by decide) (by rfl) (pa_cons (pv 0) (pa_cons (pe_lst (pa_cons (pe_tup (pa_cons pe_int (pa_cons pe_int pa_nil))) (pa_cons (pe_tup (pa_cons pe_int (pa_cons pe_int pa_nil))) (pa_cons (pe_tup (pa_cons pe_int (pa_cons pe_int pa_nil))) (pa_cons (pe_tup (pa_cons (pe_op op_add pe_int (pe_ca cDr hr (by decide) (by rfl) (pa_cons (pv 0) (pa_cons pe_int pa_nil)))) (pa_cons (pe_op op_add pe_int (pe_ca cDr hr (by decide) (by rfl) (pa_cons (pv 0) (pa_cons pe_int pa_nil)))) pa_nil))) (pa_cons (pv 1) pa_nil)))))) pa_nil)))))), ?_⟩
    refine go_start (σ := [some _, none]) rfl ?_
    walk_at "go"
    rename_i d1 J1 l1 p1 b1 d2 J2 l2 p2 b2 t1 J3 n3 z3 e3 t2 J4 n4 z4 e4 t3 J5 n5 z5 e5 t4 J6 n6 z6 e6 d3 J7 l7 p7 b7 d4 J8 l8 p8 b8 t5 J9 n9 z9 e9 ls J10 n10 z10 e10 v J11 hv p11 b11
    simp only [List.mem_cons, List.not_mem_nil, or_false] at hv
    have c20 : (10 : Nat) ^ 20 = 100000000000000000000 := by decide
    have c6 : (10 : Nat) ^ 6 = 1000000 := by decide
    have c70 : (2 : Nat) ^ 70 = 1180591620717411303424 := by decide
    rcases hv with rfl | rfl | rfl | rfl | rfl
    · exact q _ 1 1 _ (by nest_cls) (by decide) (by decide) (by decide) (by decide) p11 (by tb_rel)
    · exact q _ 8 1 _ (by nest_cls) (by decide) (by decide) (by decide) (by decide) p11 (by tb_rel)
    · exact q _ 360 1 _ (by nest_cls) (by decide) (by decide) (by decide) (by decide) p11 (by tb_rel)
    · exact q _ (1 + d3) (1 + d4) _ (by nest_cls) (by omega) (by omega) (by omega) (by omega) p11 (by tb_rel)
    · exact q _ (10 ^ 20 + d1) (1 + d2) _ (by nest_cls) (by omega) (by omega) (by omega) (by omega) p11 (by tb_rel)
theorem ok_lreach {f : Addr} {fd : FuncData} (F : Df K "_law_reach" "_law_reach" s_lreach [] f fd) (B : Blt mg) (cDr : Ca P w K mg base 1 "_law_draw" sp_draw []) (cPk : Ca P w K mg base 2 "_law_pick" (sp_pick K) []) : FnOk P w K mg base CX0 3 f fd ["_law_pot_here"] (sp_lreach K) := by
  refine dfOk F sc_lreach (fun vs H Q E h => ?_) (fun cdv A outer s H vs Q E hr h => ?_)
  · obtain ⟨p, rfl, _⟩ := h
    rfl
  · obtain ⟨p, rfl, hp, q⟩ := h
    refine ⟨_, (pss_cons (ps_set (i := 1) sc_lreach.nd rfl (Or.inl rfl) (pe_op op_add pe_int (pe_ca cDr hr (by decide) (by rfl) (pa_cons (pv 0) (pa_cons pe_int pa_nil)))))
  (pss_one (ps_ret (pe_ca cPk hr (by decide) (by rfl) (pa_cons (pv 0) (pa_cons (pe_lst (pa_cons (pe_tup (pa_cons pe_int (pa_cons pe_int pa_nil))) (pa_cons (pe_tup (pa_cons pe_int (pa_cons pe_int pa_nil))) (pa_cons (pe_tup (pa_cons pe_int (pa_cons pe_int pa_nil))) (pa_cons (pe_tup (pa_cons pe_int (pa_cons pe_int pa_nil))) (pa_cons (pe_tup (pa_cons pe_int (pa_cons pe_int pa_nil))) (pa_cons (pe_tup (pa_cons (pe_op op_add pe_int (pe_ca cDr hr (by decide) (by rfl) (pa_cons (pv 0) (pa_cons (pv 1) pa_nil)))) (pa_cons (pv 1) pa_nil))) pa_nil))))))) pa_nil)))))), ?_⟩
    refine go_start (σ := [some _, none]) rfl ?_
    walk_at "go"
    rename_i d1 J1 l1 p1 b1 t1 J3 n3 z3 e3 t2 J4 n4 z4 e4 t3 J5 n5 z5 e5 t4 J6 n6 z6 e6 t5 J7 n7 z7 e7 d2 J8 l8 p8 b8 t6 J9 n9 z9 e9 ls J10 n10 z10 e10 v J11 hv p11 b11
    simp only [List.mem_cons, List.not_mem_nil, or_false] at hv
    rcases hv with rfl | rfl | rfl | rfl | rfl | rfl
    · exact q _ 1 1 _ (by nest_cls) (by decide) (by decide) (by decide) p11 (by tb_rel)
    · exact q _ 1 1 _ (by nest_cls) (by decide) (by decide) (by decide) p11 (by tb_rel)
    · exact q _ 1 2 _ (by nest_cls) (by decide) (by decide) (by decide) p11 (by tb_rel)
    · exact q _ 1 3 _ (by nest_cls) (by decide) (by decide) (by decide) p11 (by tb_rel)
    · exact q _ 2 3 _ (by nest_cls) (by decide) (by decide) (by decide) p11 (by tb_rel)
    · exact q _ (1 + d2) (1 + d1) _ (by nest_cls) (by omega) (by omega) (by omega) p11 (by tb_rel)
theorem ok_passed {f : Addr} {fd : FuncData} (F : Df K "_law_passed" "_law_passed" s_passed [] f fd) (B : Blt mg) (cDr : Ca P w K mg base 1 "_law_draw" sp_draw []) (cRt : Ma P w K mg base 2 "Ratio" CR (sp_rinit CR) []) : FnOk P w K mg base CX0 4 f fd ["_law_pot_here", "_law_pair"] (sp_passed K CR) := by
  refine dfOk F sc_passed (fun vs H Q E h => ?_) (fun cdv A outer s H vs Q E hr h => ?_)
  · obtain ⟨p, v, a, b, rfl, _⟩ := h
    rfl
  · obtain ⟨p, v, a, b, rfl, hp, hd, b0, b1, q⟩ := h
    obtain ⟨t, rfl, ht⟩ := pair_at hd
    have hb : (b : Int) ≠ 0 := by omega
    have hl : (b : Int).natAbs.log2 < 9000 := by
      rw [Int.natAbs_natCast]
      exact lg_lt (Nat.lt_trans b1 (Nat.pow_lt_pow_right (by decide) (by decide))) (by decide)
    refine ⟨_, (pss_one (ps_ret (pe_ifExp (PW.pt (pw_and (pt_cmpR op_eq (pe_ix ix_tup' (pv 1) pe_int (fun _ _ => rfl)) pe_int (nomark _)) (pw_and1 (pt_cmpR op_eq (pe_ca cDr hr (by decide) (by rfl) (pa_cons (pv 0) (pa_cons pe_int pa_nil))) pe_int (nomark _))))) (pe_ix ix_tup' (pv 1) pe_int (fun _ _ => rfl)) (pe_ma cRt hr (by decide) (by rfl) (pa_cons (pe_ix ix_tup' (pv 1) pe_int (fun _ _ => rfl)) (pa_cons (pe_ix ix_tup' (pv 1) pe_int (fun _ _ => rfl)) pa_nil)))))), ?_⟩
    refine go_start (σ := [some _, some _]) rfl ?_
    walk_at "go"
    by_cases hb1 : b = 1
    · walk_at "go"
      rename_i d J1 ld p1 b1'
      by_cases hd0 : d = 0
      · walk_at "go"
        refine q _ _ ?_ p1 b1'
        subst hb1
        exact .inl ⟨_, rfl, divInt_one _⟩
      · walk_at "go"
        exact q _ _ (.inr (by assumption)) (by tb_rel) (by tb_rel)
    · walk_at "go"
      exact q _ _ (.inr (by assumption)) (by tb_rel) (by tb_rel)
end
end T
set_option Elab.async false
set_option maxRecDepth 100000
set_option maxHeartbeats 4000000
namespace T
open PySem L2 Mv
abbrev s_lmodel : Stmt := top 74
theorem sc_lmodel : FnScope ["_law_pot_here", "_law_found"] ["_law_pot_here"] (defScope s_lmodel) := ⟨rfl, rfl, rfl, by decide +kernel, rfl, by decide +kernel, by decide +kernel⟩
abbrev s_larea : Stmt := top 75
theorem sc_larea : FnScope ["_law_pot_here", "_law_model_here", "_law_wide", "_law_high", "_law_pair"] ["_law_pot_here", "_law_model_here"] (defScope s_larea) := ⟨rfl, rfl, rfl, by decide +kernel, rfl, by decide +kernel, by decide +kernel⟩
abbrev s_lgauge : Stmt := top 76
theorem sc_lgauge : FnScope ["_law_pot_here", "_law_model_here", "_law_wide", "_law_high", "_law_pair"] ["_law_pot_here", "_law_model_here"] (defScope s_lgauge) := ⟨rfl, rfl, rfl, by decide +kernel, rfl, by decide +kernel, by decide +kernel⟩
/-- what a gauge is made of: rounds; lengths a / b, c / d; reaches e / f, g / h; closed axes; kind -/
structure Md where
  rs : List (List Pm.Cut)
  a : Nat
  b : Nat
  c : Nat
  d : Nat
  e : Nat
  f : Nat
  g : Nat
  h : Nat
  shut : List Nat
  kd : Str
structure MdOk (m : Md) : Prop where
  rs : Pm.RdsOk m.rs
  a : 0 < m.a ∧ m.a < 2 ^ 70
  b : 0 < m.b ∧ m.b < 2 ^ 70
  c : 0 < m.c ∧ m.c < 2 ^ 70
  d : 0 < m.d ∧ m.d < 2 ^ 70
  e : 0 < m.e ∧ m.e ≤ m.f
  f : m.f ≤ 12
  g : 0 < m.g ∧ m.g ≤ m.h
  h : m.h ≤ 12
  shut : AxOk m.shut
  kd : m.kd = "box" ∨ m.kd = "sum"
abbrev pPr2 (a b c d : Nat) : PyData := .list [pPr a b, pPr c d]
abbrev Md.x (m : Md) : Rat := Rat.divInt m.a m.b
abbrev Md.y (m : Md) : Rat := Rat.divInt m.c m.d
abbrev Md.p (m : Md) : Rat := Rat.divInt m.e m.f
abbrev Md.q (m : Md) : Rat := Rat.divInt m.g m.h
section
variable {P : Program} {w : World} {K : PySem.W.Frag} {mg : Str → Option Value} {base : Heap} {C AX CR CM CG KD : Addr}
theorem pf_axs (l : List Nat) : PF (pAxs l) = true := by
  refine PF.list ?_ fun d hd => ?_
  · match l with
    | [] => rfl
    | [_] => rfl
    | [_, _] => rfl
    | _ :: _ :: _ :: _ => rfl
  · obtain ⟨c, _, rfl⟩ := List.mem_map.mp hd
    rfl
/-- the law's dict -/
structure MdAt (K : PySem.W.Frag) (H : Hp) (v : V) (m : Md) : Prop where
  ex : ∃ D kvs R L Z S, v = .ref D ∧ H D = some (.dK kvs) ∧ valV kvs (.inr "rounds") = some R ∧ valV kvs (.inr "lengths") = some L ∧ valV kvs (.inr "reaches") = some Z ∧ valV kvs (.inr "shut") = some S ∧ valV kvs (.inr "kind") = some (.str m.kd) ∧
    Dp K H R (pRds m.rs) ∧ Dp K H L (pPr2 m.a m.b m.c m.d) ∧ Dp K H Z (pPr2 m.e m.f m.g m.h) ∧ Dp K H S (pAxs m.shut)
  ok : MdOk m
theorem up_mdl {H H' : Hp} {v : V} {m : Md} (s : Same H H') (h : MdAt K H v m) : MdAt K H' v m := by
  obtain ⟨D, kvs, R, L, Z, S, e, eD, h1, h2, h3, h4, h5, d1, d2, d3, d4⟩ := h.ex
  exact ⟨⟨D, kvs, R, L, Z, S, e, s _ _ eD, h1, h2, h3, h4, h5, d1.up s, d2.up s, d3.up s, d4.up s⟩, h.ok⟩
theorem bu_mdl {p : Addr} {H H' : Hp} {v : V} {m : Md} (s : Bu p H H') (hp : Pot H p) (h : MdAt K H v m) : MdAt K H' v m := by
  obtain ⟨D, kvs, R, L, Z, S, e, eD, h1, h2, h3, h4, h5, d1, d2, d3, d4⟩ := h.ex
  exact ⟨⟨D, kvs, R, L, Z, S, e, bu_getd s hp eD, h1, h2, h3, h4, h5, pf_dp s hp (pf_rds _) d1, pf_dp s hp rfl d2, pf_dp s hp rfl d3, pf_dp s hp (pf_axs _) d4⟩, h.ok⟩
theorem KeyOk.nostr {kvs : List (Key × V)} (h : KeyOk kvs) (s : Str) : valV kvs (.inr s) = none := by
  obtain ⟨ns, e, _, _⟩ := h
  cases hv : valV kvs (.inr s) with
  | none => rfl
  | some z =>
    have a := valV_any (Sum.inr s) kvs
    rw [hv] at a
    have : (kvs.any fun kv => decide (kv.1 = (Sum.inr s : Key))) = true := a
    obtain ⟨kv, hk, ek⟩ := List.any_eq_true.mp this
    have hm : (Sum.inr s : Key) ∈ kvs.map (·.1) := List.mem_map.mpr ⟨kv, hk, of_decide_eq_true ek⟩
    rw [e] at hm
    obtain ⟨n, _, en⟩ := List.mem_map.mp hm
    cases en
theorem bd_mdl {G : Addr} {H H' : Hp} {v u : V} {m : Md} {rs : List (List Pm.Cut)} {x y p q : Rat} (s : Bd G H H') (hg : GauAt K C CR CM CG H u G rs x y p q) (h : MdAt K H v m) : MdAt K H' v m := by
  obtain ⟨D, kvs, R, L, Z, S, e, eD, h1, h2, h3, h4, h5, d1, d2, d3, d4⟩ := h.ex
  obtain ⟨a, dx, m', t, k, s', b1, b2, kvs', _, _, _, _, _, _, eG, ko, _⟩ := hg.ex
  have ne : D ≠ G := fun z => by
    rw [z, eG] at eD
    cases eD
    rw [ko.nostr] at h1
    cases h1
  exact ⟨⟨D, kvs, R, L, Z, S, e, bd_getd s ne eD, h1, h2, h3, h4, h5, bd_dp s d1, bd_dp s d2, bd_dp s d3, bd_dp s d4⟩, h.ok⟩
/-- plans, maps, gauges where a pot changes -/
theorem bu_plan {p : Addr} {H H' : Hp} {v : V} {rs : List (List Pm.Cut)} (b : Bu p H H') (hp : Pot H p) (h : PlanAt K C H v rs) : PlanAt K C H' v rs := by
  obtain ⟨a, dx, R, Pt, e, ea, h1, h2⟩ := h.ex
  refine ⟨⟨a, dx, R, Pt, e, bu_geti b hp ea, pf_dp b hp (pf_rds _) h1, pf_dp b hp (PF.list ?_ fun d hd => ?_) h2⟩, h.ok⟩
  · match rs with
    | [] => rfl
    | [_] => rfl
    | [_, _] => rfl
    | _ :: _ :: _ :: _ => rfl
  · obtain ⟨r, _, rfl⟩ := List.mem_map.mp hd
    rfl
theorem bu_map {p : Addr} {H H' : Hp} {v : V} {rs : List (List Pm.Cut)} {x y : Rat} (s : Bu p H H') (hp : Pot H p) (h : MapAt K C CR CM H v rs x y) : MapAt K C CR CM H' v rs x y := by
  obtain ⟨a, dx, pl, t, c, b1, b2, e, ea, hpl, ht, h1, h2⟩ := h.ex
  exact ⟨a, dx, pl, t, c, b1, b2, e, bu_geti s hp ea, bu_plan s hp hpl, bu_gett s hp ht, bu_rat s hp h1, bu_rat s hp h2⟩
theorem up_gau {H H' : Hp} {v : V} {D : Addr} {rs : List (List Pm.Cut)} {x y p q : Rat} (s : Same H H') (h : GauAt K C CR CM CG H v D rs x y p q) : GauAt K C CR CM CG H' v D rs x y p q := by
  obtain ⟨a, dx, m, t, k, sd, b1, b2, kvs, e, ea, hm, ht, h1, h2, eD, ko, hv⟩ := h.ex
  exact ⟨a, dx, m, t, k, sd, b1, b2, kvs, e, s _ _ ea, up_map s hm, s _ _ ht, up_rat s h1, up_rat s h2, s _ _ eD, ko, fun f z hz => up_rat s (hv f z hz)⟩
theorem bu_gau {o : Addr} {H H' : Hp} {v : V} {D : Addr} {rs : List (List Pm.Cut)} {x y p q : Rat} (s : Bu o H H') (hp : Pot H o) (h : GauAt K C CR CM CG H v D rs x y p q) : GauAt K C CR CM CG H' v D rs x y p q := by
  obtain ⟨a, dx, m, t, k, sd, b1, b2, kvs, e, ea, hm, ht, h1, h2, eD, ko, hv⟩ := h.ex
  exact ⟨a, dx, m, t, k, sd, b1, b2, kvs, e, bu_geti s hp ea, bu_map s hp hm, bu_gett s hp ht, bu_rat s hp h1, bu_rat s hp h2, bu_getd s hp eD, ko, fun f z hz => bu_rat s hp (hv f z hz)⟩
/-- making a map, a gauge -/
theorem mk_map {H : Hp} {p e n c : V} {rs : List (List Pm.Cut)} {l : List Nat} {x y : Rat} {Q : VK} {E : XK} (hp : PlanAt K C H p rs) (he : NumAt CR H e x) (x0 : 0 < x) (hn : NumAt CR H n y) (y0 : 0 < y) (hc : Dp K H c (pAxs l)) (hl : AxOk l)
    (q : ∀ v H', Same H H' → MapAt K C CR CM H' v rs x y → Q v H') : MakK CM 3 1 (sp_minit K C CR CM) gApp E Q [p, e, n] [c] H := by
  refine ⟨rfl, rfl, fun o dx ho hdx hne => ?_⟩
  have s1 : Same H (upd (upd H dx (.own o)) o (.ins CM dx [])) := same_make ho hdx hne
  refine ⟨o, dx, p, e, n, c, rs, l, x, y, rfl, upd_same, hp.same s1, up_num s1 he, x0, up_num s1 hn, y0, hc.up s1, hl, fun H' b hm => ⟨rfl, q _ H' (fun d u z => ?_) hm⟩⟩
  exact b d u (fun w => by rw [w, ho] at z; cases z) (s1 d u z)
theorem mk_gauge {H : Hp} {m e n : V} {kd : Str} {rs : List (List Pm.Cut)} {x y p q : Rat} {Q : VK} {E : XK} (hm : MapAt K C CR CM H m rs x y) (he : NumAt CR H e p) (s1 : SzQ p) (p0 : 0 < p) (p1 : p ≤ 1) (hn : NumAt CR H n q) (s2 : SzQ q) (q0 : 0 < q) (q1 : q ≤ 1) (hk : kd = "box" ∨ kd = "sum")
    (k : ∀ v D H', H D = none → Same H H' → GauAt K C CR CM CG H' v D rs x y p q → Q v H') : MakR CG (sp_ginit K C CR CM CG) [] E Q [m, e, n, .str kd] H := by
  intro o dx ho hdx hne
  have z1 : Same H (upd (upd H dx (.own o)) o (.ins CG dx [])) := same_make ho hdx hne
  refine ⟨o, dx, m, e, n, kd, rs, x, y, p, q, rfl, upd_same, up_map z1 hm, up_num z1 he, s1, p0, p1, up_num z1 hn, s2, q0, q1, hk, fun D H' nD b hg => ⟨rfl, k _ D H' (z1.free nD) (fun d u z => ?_) hg⟩⟩
  exact b d u (fun w => by rw [w, ho] at z; cases z) (z1 d u z)
theorem putK_len (kvs : List (Key × V)) (k : Key) (v : V) : (putK kvs k v).length ≤ kvs.length + 1 := by
  unfold putK
  split
  · rw [List.length_map]; omega
  · rw [List.length_append]; exact Nat.le_refl _
def Ln (kvs : List (Key × V)) (n : Nat) : Prop := kvs.length ≤ n
theorem Ln.lt {kvs : List (Key × V)} {n : Nat} (h : Ln kvs n) (hn : n < 100) : kvs.length < sizeLine := by
  unfold Ln at h
  unfold sizeLine
  omega
theorem div_pos {a b : Nat} (ha : 0 < a) (hb : 0 < b) : (0 : Rat) < Rat.divInt a b := by
  rw [Rat.lt_iff]
  show (0 : Int) * _ < _ * 1
  rw [Int.zero_mul, Int.mul_one, Rat.num_divInt, Int.sign_eq_one_of_pos (by omega), Int.one_mul]
  refine Int.ediv_pos_of_pos_of_dvd (by omega) (by omega) ?_
  exact Int.gcd_dvd_right ..
theorem div_le1 {a b : Nat} (ha : a ≤ b) (hb : 0 < b) : Rat.divInt a b ≤ 1 := by
  refine Rat.not_lt.mp fun h => ?_
  rw [Rat.lt_iff, Rat.num_divInt, Rat.den_divInt, if_neg (by omega), Int.sign_eq_one_of_pos (by omega), Int.one_mul, Int.natAbs_natCast] at h
  have h' : (1 : Int) * ((b / (b : Int).gcd a : Nat) : Int) < (a : Int) / (((b : Int).gcd a : Nat) : Int) * 1 := h
  rw [Int.one_mul, Int.mul_one, ← Int.natCast_ediv, Int.ofNat_lt] at h'
  exact Nat.not_lt.mpr (Nat.div_le_div_right ha) h'
theorem sz_div {a b : Nat} (ha : a < 2 ^ 4400) (hb : b < 2 ^ 4400) (h0 : 0 < b) : SzQ (Rat.divInt a b) := by
  constructor
  · rw [Rat.num_divInt, Int.sign_eq_one_of_pos (by omega), Int.one_mul, ← Int.natCast_ediv, Int.natAbs_natCast]
    exact Nat.lt_of_le_of_lt (Nat.div_le_self _ _) ha
  · rw [Rat.den_divInt, if_neg (by omega), Int.natAbs_natCast]
    exact Nat.lt_of_le_of_lt (Nat.div_le_self _ _) hb
def sp_lmodel (K : PySem.W.Frag) : Sp := fun vs H Q _ => ∃ (p : Addr), vs = [.ref p] ∧ Pot H p ∧ ∀ (v : V) (m : Md) (H' : Hp), MdAt K H' v m → Pot H' p → Bu p H H' → Q v H'
theorem c_lmodel {K : PySem.W.Frag} {p : Addr} {H : Hp} {Q : VK} {E : XK} (h0 : Pot H p) (q : ∀ (v : V) (m : Md) (H' : Hp), MdAt K H' v m → Pot H' p → Bu p H H' → Q v H') : sp_lmodel K [.ref p] H Q E := ⟨_, rfl, h0, q⟩
def sp_larea (K : PySem.W.Frag) (C CR CM : Addr) : Sp := fun vs H Q _ => ∃ (p : Addr) (u : V) (m : Md), vs = [.ref p, u] ∧ Pot H p ∧ MdAt K H u m ∧ ∀ (v : V) (H' : Hp), MapAt K C CR CM H' v m.rs m.x m.y → Pot H' p → Bu p H H' → Q v H'
theorem c_larea {K : PySem.W.Frag} {C CR CM : Addr} {p : Addr} {u : V} {m : Md} {H : Hp} {Q : VK} {E : XK} (h0 : Pot H p) (h1 : MdAt K H u m) (q : ∀ (v : V) (H' : Hp), MapAt K C CR CM H' v m.rs m.x m.y → Pot H' p → Bu p H H' → Q v H') : sp_larea K C CR CM [.ref p, u] H Q E := ⟨_, _, _, rfl, h0, h1, q⟩
def sp_lgauge (K : PySem.W.Frag) (C CR CM CG : Addr) : Sp := fun vs H Q _ => ∃ (p : Addr) (u : V) (m : Md), vs = [.ref p, u] ∧ Pot H p ∧ MdAt K H u m ∧ ∀ (v : V) (D : Addr) (H' : Hp), H D = none → GauAt K C CR CM CG H' v D m.rs m.x m.y m.p m.q → Pot H' p → Bu p H H' → Q v H'
theorem c_lgauge {K : PySem.W.Frag} {C CR CM CG : Addr} {p : Addr} {u : V} {m : Md} {H : Hp} {Q : VK} {E : XK} (h0 : Pot H p) (h1 : MdAt K H u m) (q : ∀ (v : V) (D : Addr) (H' : Hp), H D = none → GauAt K C CR CM CG H' v D m.rs m.x m.y m.p m.q → Pot H' p → Bu p H H' → Q v H') : sp_lgauge K C CR CM CG [.ref p, u] H Q E := ⟨_, _, _, rfl, h0, h1, q⟩
local macro_rules | `(tactic| tb_rel) => `(tactic| repeat (first
  | with_reducible assumption
  | with_reducible exact Dp.int _
  | with_reducible exact Dp.str _
  | with_reducible exact Dp.bl _
  | with_reducible exact Dp.non
  | (with_reducible apply SqT.of; with_reducible assumption)
  | (with_reducible apply SqL.of; with_reducible assumption)
  | (with_reducible apply up_dp; with_reducible assumption)
  | (with_reducible apply up_sqt; with_reducible assumption)
  | (with_reducible apply up_sql; with_reducible assumption)
  | (with_reducible apply up_get; with_reducible assumption)
  | (with_reducible apply up_pot; with_reducible assumption)
  | with_reducible exact Same.refl _
  | with_reducible exact Bu.refl _ _
  | (with_reducible apply up_same; with_reducible assumption)
  | (with_reducible apply up_bu; with_reducible assumption)
  | (with_reducible apply bu_bu; with_reducible assumption)
  | (with_reducible apply free_of; with_reducible assumption)
  | (with_reducible apply mi_fr; with_reducible assumption; (focus (tb_rel; done)))
  | (with_reducible apply mi_dp; with_reducible assumption)
  | (with_reducible apply mi_sqt; with_reducible assumption)
  | (with_reducible apply mi_sql; with_reducible assumption)
  | (with_reducible apply mi_gett; with_reducible assumption)
  | (with_reducible apply mi_getl; with_reducible assumption)
  | (with_reducible apply mi_pot; with_reducible assumption)
  | (with_reducible apply mi_refl; with_reducible assumption; (focus (with_unfolding_all exact rfl)))
  | (with_reducible apply up_mi; with_reducible assumption)
  | (with_reducible apply mi_mi; with_reducible assumption)
  | (with_reducible apply mi_bu; with_reducible assumption)
  | with_reducible exact num_int _
  | (with_reducible apply rat_of; with_reducible assumption)
  | (with_reducible apply num_rat; (focus (tb_rel; done)))
  | (with_reducible apply up_plan; with_reducible assumption)
  | (with_reducible apply bu_plan; with_reducible assumption; (focus (tb_rel; done)))
  | (with_reducible apply mi_plan; with_reducible assumption; (focus (lcg_src; done)))
  | (with_reducible apply up_rat; with_reducible assumption)
  | (with_reducible apply up_num; with_reducible assumption)
  | (with_reducible apply mi_rat; with_reducible assumption; (focus (lcg_src; done)))
  | (with_reducible apply mi_num; with_reducible assumption; (focus (lcg_src; done)))
  | (with_reducible apply bu_rat; with_reducible assumption; (focus (tb_rel; done)))
  | (with_reducible apply bu_num; with_reducible assumption; (focus (tb_rel; done)))
  | (with_reducible apply up_map; with_reducible assumption)
  | (with_reducible apply up_bd; with_reducible assumption)
  | (with_reducible apply bd_bd; with_reducible assumption)
  | (with_reducible apply bd_same; with_reducible assumption; (focus (tb_rel; done)))
  | (with_reducible apply bd_bup; with_reducible assumption; (focus (tb_rel; done)))
  | (with_reducible apply bu_getd; with_reducible assumption; (focus (tb_rel; done)))
  | (with_reducible apply bd_dp; with_reducible assumption)
  | (with_reducible apply bd_sqt; with_reducible assumption)
  | (with_reducible apply bd_sql; with_reducible assumption)
  | (with_reducible apply bd_gett; with_reducible assumption)
  | (with_reducible apply bd_getl; with_reducible assumption)
  | (with_reducible apply bd_geti; with_reducible assumption)
  | (with_reducible apply bd_pot; with_reducible assumption)
  | (with_reducible apply pf_dp; with_reducible assumption; (focus (tb_rel; done)); (focus (lcg_src; done)))
  | (with_reducible apply up_mdl; with_reducible assumption)
  | (with_reducible apply bu_mdl; with_reducible assumption; (focus (tb_rel; done)))
  | (with_reducible apply bd_mdl; with_reducible assumption; (focus (tb_rel; done)))
  | (with_reducible apply up_gau; with_reducible assumption)
  | (with_reducible apply bu_gau; with_reducible assumption; (focus (tb_rel; done)))
  | (with_reducible apply bu_map; with_reducible assumption; (focus (tb_rel; done)))
  | (with_reducible apply bu_gett; with_reducible assumption; (focus (tb_rel; done)))
  | (with_reducible apply bu_geti; with_reducible assumption; (focus (tb_rel; done)))
  | (with_reducible apply bu_get; with_reducible assumption; (focus (tlg_ne; done)))
  | (with_reducible apply bu_sqt; with_reducible assumption; (focus (tb_rel; done)))
  | (with_reducible apply bu_sql; with_reducible assumption; (focus (tlg_ne; done)))
  | (with_reducible apply bu_dp; with_reducible assumption; (focus (tb_rel; done)); (focus (lcg_src; done)))
  | fail "up"))
local macro_rules | `(tactic| tlg_ne) => `(tactic| first
  | with_reducible assumption
  | (with_reducible apply pot_ne; with_reducible assumption; (focus (tb_rel; done)))
  | fail "ne")
local macro_rules | `(tactic| lcg_src) => `(tactic| first
  | with_reducible assumption
  | with_unfolding_all exact rfl
  | with_unfolding_all decide
  | with_unfolding_all exact Nat.ne_of_beq_eq_false rfl
  | (apply_assumption; done)
  | omega
  | (simp; done)
  | (simp; omega)
  | fail "sd")
local macro_rules | `(tactic| lcg_sub) => `(tactic| first
  | (unfold sizeLine; omega)
  | (simp only [List.length_cons, List.length_nil, List.length_append, List.length_map, List.length_replicate, List.length_take, List.length_drop]; unfold sizeLine; omega)
  | (simp; unfold sizeLine; omega)
  | fail "sz")
local macro_rules | `(tactic| nest_cls) => `(tactic| first
  | (tb_rel; done)
  | (with_reducible apply nmI; (focus (tb_rel; done)))
  | (with_reducible apply d_tup; (focus (tb_rel; done)); (focus (lsm_bools; done)))
  | (with_reducible apply d_lst; (focus (tb_rel; done)); (focus (lsm_bools; done)))
  | fail "dp")
local macro_rules | `(tactic| lsm_bools) => `(tactic| repeat (first
  | with_reducible exact DpAll.nil
  | with_reducible assumption
  | (with_reducible apply DpAll.cons; (focus (nest_cls; done)))
  | fail "dpa"))
local macro_rules | `(tactic| none_booked) => `(tactic| first | with_unfolding_all exact rfl | (with_reducible apply atI_nat; with_reducible assumption) | fail "ix")
local macro_rules | `(tactic| walk_at "go") => `(tactic| repeat (first
  | (focus (with_reducible refine go_var (v := ?_) ?_ ?_; rotate_left; (focus (with_unfolding_all exact rfl))))
  | with_reducible refine go_seq ?_
  | with_reducible refine go_cN ?_
  | with_reducible refine go_c ?_
  | with_reducible refine go_op ?_
  | with_reducible refine go_nil ?_
  | with_reducible refine go_cons ?_
  | with_reducible refine go_cb ?_
  | with_reducible refine go_call0 ?_
  | with_reducible refine go_asg ?_
  | (focus (with_reducible refine go_gname (σ' := ?_) ?_ ?_; rotate_left; (focus (simp only [List.set_cons_succ, List.set_cons_zero]; exact rfl))))
  | with_reducible refine go_par ?_
  | (focus (with_reducible refine go_par2 (σ' := ?_) ?_ ?_; rotate_left; (focus (simp only [List.set_cons_succ, List.set_cons_zero]; exact rfl))))
  | with_reducible refine go_ifs ?_
  | with_reducible refine go_test ?_
  | with_reducible refine go_tb ?_
  | with_reducible refine go_asb ?_
  | with_reducible refine go_asi ?_
  | with_reducible refine go_ret ?_
  | with_reducible refine go_retn ?_
  | with_reducible refine go_drop ?_
  | with_reducible refine go_next ?_
  | with_reducible refine go_and ?_
  | with_reducible refine go_or ?_
  | with_reducible refine go_not ?_
  | with_reducible refine go_andv ?_
  | with_reducible refine go_orv ?_
  | with_reducible refine go_notv ?_
  | with_reducible refine go_ife ?_
  | with_reducible refine go_chain ?_
  | with_reducible refine go_if1 ?_
  | with_reducible refine go_if0 ?_
  | with_reducible refine go_ifn1 ?_
  | with_reducible refine go_ifn0 ?_
  | (with_reducible apply go_ift; (focus (first | with_reducible rfl | with_reducible assumption | omega)))
  | (with_reducible apply go_ifnt; (focus (first | with_reducible rfl | with_reducible assumption | omega)))
  | (with_reducible apply go_iff; (focus (first | with_reducible assumption | omega)))
  | (with_reducible apply go_ifnf; (focus (first | with_reducible assumption | omega)))
  | with_reducible refine go_un ?_
  | with_reducible refine go_tup ?_
  | with_reducible refine go_lst ?_
  | (with_reducible apply go_newt; (focus (lcg_sub; done)); intros)
  | (with_reducible apply go_newl; (focus (lcg_sub; done)); intros)
  | with_reducible refine go_meth ?_
  | with_reducible refine go_for ?_
  | with_reducible refine go_lc ?_
  | with_reducible refine go_irng1 ?_
  | with_reducible refine go_irng2 ?_
  | with_reducible refine go_ilist ?_
  | with_reducible refine go_itup ?_
  | with_reducible refine go_izip ?_
  | with_reducible refine go_ienum ?_
  | (with_reducible apply go_rg1; (focus (lcg_src; done)))
  | (with_reducible apply go_rg2; (focus (lcg_src; done)); (focus (lcg_src; done)))
  | (with_reducible apply go_lsr; (focus (tb_rel; done)))
  | (with_reducible apply go_tpr; (focus (tb_rel; done)))
  | (with_reducible apply go_zpr; (focus (tb_rel; done)); (focus (tb_rel; done)))
  | (with_reducible apply go_zprT; (focus (tb_rel; done)); (focus (tb_rel; done)))
  | (with_reducible apply go_enrL; (focus (tb_rel; done)))
  | (with_reducible apply go_enrT; (focus (tb_rel; done)))
  | with_reducible refine go_prop ?_
  | with_reducible refine go_knr0 ?_
  | (with_reducible apply go_knr; (focus (with_unfolding_all exact rfl; done)); (focus (simp only [kSw2, kRev3, kId, List.nil_append, List.cons_append]; exact rfl)))
  | with_reducible refine go_mkn ?_
  | (with_reducible apply go_mkr; (focus (tb_rel; done)); (focus (with_unfolding_all exact rfl; done)))
  | with_reducible refine go_fld ?_
  | (with_reducible apply go_flr; (focus (tb_rel; done)); (focus (with_reducible assumption; done)); (focus (with_reducible assumption; done)); (focus (with_unfolding_all exact rfl; done)))
  | (with_reducible apply go_prr; (focus (tb_rel; done)))
  | (with_reducible apply go_mer; (focus (tb_rel; done)); (focus (with_unfolding_all exact rfl; done)))
  | with_reducible refine go_sfld ?_
  | (with_reducible apply go_sfr; (focus (tb_rel; done)); (focus (with_reducible assumption; done)); (focus (with_reducible assumption; done)); (focus (with_unfolding_all exact Nat.le_of_ble_eq_true rfl; done)); (focus (with_unfolding_all exact rfl; done)); intros)
  | with_reducible refine go_revt ?_
  | with_reducible refine go_make0 ?_
  | (focus (with_reducible refine go_aug (x := ?_) ?_ ?_; rotate_left; (focus (with_unfolding_all exact rfl))))
  | (focus (with_reducible refine go_augk (σ' := ?_) ?_ ?_; rotate_left; (focus (simp only [List.set_cons_succ, List.set_cons_zero]; exact rfl))))
  | with_reducible refine go_min2 ?_
  | with_reducible refine go_int1 ?_
  | with_reducible refine go_max2 ?_
  | with_reducible refine go_intB ?_
  | with_reducible refine go_absN ?_
  | with_reducible refine go_isN ?_
  | with_reducible refine go_notN ?_
  | (with_reducible apply go_rvt; (focus (tb_rel; done)); (focus (simp only [List.reverse_cons, List.reverse_nil, List.nil_append, List.cons_append]; exact rfl)); intros)
  | (with_reducible apply go_reprNm; (focus (tb_rel; done)); (focus (with_reducible assumption; done)))
  | (with_reducible apply go_reprPr; (focus (nest_cls; done)); (focus (lcg_src; done)); (focus (lcg_src; done)))
  | with_reducible refine go_sl ?_
  | with_reducible refine go_part ?_
  | with_reducible refine go_nopart ?_
  | (with_reducible apply go_gtup; (focus (tb_rel; done)); (focus (with_unfolding_all exact rfl; done)))
  | (with_reducible apply go_gunl; (focus (tb_rel; done)); (focus (with_unfolding_all exact rfl; done)))
  | with_reducible refine go_gcons ?_
  | with_reducible refine go_gnil ?_
  | with_reducible refine go_addN ?_
  | with_reducible refine go_ltN ?_
  | with_reducible refine go_leN ?_
  | with_reducible refine go_gtN ?_
  | with_reducible refine go_geN ?_
  | (with_reducible apply go_subN; (focus (omega; done)))
  | with_reducible refine go_rI0 ?_
  | (with_reducible apply go_mulN; (focus (omega; done)))
  | (with_reducible apply go_modN; (focus (omega; done)))
  | (with_reducible apply go_divN; (focus (omega; done)))
  | (with_reducible apply go_powN; (focus (with_unfolding_all decide; done)))
  | with_reducible refine go_rU ?_
  | with_reducible refine go_eqN ?_
  | with_reducible refine go_neN ?_
  | with_reducible refine go_isB ?_
  | with_reducible refine go_notB ?_
  | with_reducible refine go_eqS ?_
  | with_reducible refine go_neS ?_
  | with_reducible refine go_eqB ?_
  | with_reducible refine go_eqI ?_
  | with_reducible refine go_neI ?_
  | (with_reducible apply go_ixt; (focus (tb_rel; done)); (focus (none_booked; done)))
  | (with_reducible apply go_ixl; (focus (tb_rel; done)); (focus (none_booked; done)))
  | (with_reducible apply go_lent; (focus (tb_rel; done)))
  | (with_reducible apply go_lenNm; (focus (tb_rel; done)))
  | (with_reducible apply go_isiNm; (focus (tb_rel; done)))
  | (with_reducible apply go_lenl; (focus (tb_rel; done)))
  | (with_reducible apply go_catA; (focus (tb_rel; done)); (focus (tb_rel; done)); (focus (lcg_sub; done)); intros)
  | (with_reducible apply go_slaT; (focus (tb_rel; done)); intros)
  | (with_reducible apply go_slaD; (focus (tb_rel; done)); intros)
  | (with_reducible apply go_rep; (focus (tb_rel; done)); (focus (lcg_src; done)); intros)
  | (with_reducible apply go_tupofl; (focus (tb_rel; done)); intros)
  | (with_reducible apply go_sllT; (focus (tb_rel; done)); intros)
  | (with_reducible apply go_sllD; (focus (tb_rel; done)); intros)
  | (with_reducible apply go_cat; (focus (tb_rel; done)); (focus (tb_rel; done)); (focus (lcg_sub; done)); intros)
  | (with_reducible apply go_eqP; with_reducible assumption; (focus (tb_rel; done)); (focus (tb_rel; done)))
  | (with_reducible apply go_neP; with_reducible assumption; (focus (tb_rel; done)); (focus (tb_rel; done)))
  | (with_reducible apply go_mkrat; with_reducible assumption; with_reducible assumption; intros)
  | (with_reducible apply go_mkrat1; intros)
  | (with_reducible apply go_merR; (focus (tb_rel; done)); (focus decide); (focus decide))
  | (with_reducible apply go_prR; (focus (tb_rel; done)))
  | (with_reducible apply go_mep; (focus (tb_rel; done)); (focus decide); (focus decide); (focus decide))
  | (with_reducible apply c_drawN; (focus (tb_rel; done)); (focus (lcg_src; done)); (focus (lcg_src; done)); intros)
  | (with_reducible apply c_ginit; (focus (tb_rel; done)); (focus (tb_rel; done)); (focus (tb_rel; done)); (focus (lcg_src; done)); (focus (lcg_src; done)); (focus (lcg_src; done)); (focus (tb_rel; done)); (focus (lcg_src; done)); (focus (lcg_src; done)); (focus (lcg_src; done)); (focus (lcg_src; done)); intros)
  | (with_reducible apply c_larea; (focus (tb_rel; done)); (focus (tb_rel; done)); intros)
  | (with_reducible apply c_lgauge; (focus (tb_rel; done)); (focus (tb_rel; done)); intros)
  | (with_reducible apply c_llength; (focus (tb_rel; done)); intros)
  | (with_reducible apply c_lmodel; (focus (tb_rel; done)); intros)
  | (with_reducible apply c_lplan; (focus (nest_cls; done)); (focus (lcg_src; done)); intros)
  | (with_reducible apply c_lreach; (focus (tb_rel; done)); intros)
  | (with_reducible apply c_minit; (focus (tb_rel; done)); (focus (tb_rel; done)); (focus (tb_rel; done)); (focus (lcg_src; done)); (focus (tb_rel; done)); (focus (lcg_src; done)); (focus (nest_cls; done)); (focus (lcg_src; done)); intros)
  | (with_reducible apply c_passed; (focus (tb_rel; done)); (focus (nest_cls; done)); (focus (lcg_src; done)); (focus (lcg_src; done)); intros)
  | (with_reducible apply c_pick; (focus (tb_rel; done)); (focus (tlg_ne; done)); (focus (tb_rel; done)); (focus (lcg_src; done)); (focus (lcg_src; done)); intros)
  | (with_reducible apply c_rounds; (focus (tb_rel; done)); intros)
  | with_reducible refine go_dget ?_
  | with_reducible refine go_dgr2 ?_
  | with_reducible refine go_dput ?_
  | with_reducible refine go_dpr2 ?_
  | with_reducible refine go_dpt ?_
  | with_reducible refine go_pnil ?_
  | with_reducible refine go_pcons ?_
  | with_reducible refine go_gsub ?_
  | with_reducible refine go_sir ?_
  | with_reducible refine go_lrg ?_
  | with_reducible refine go_rgt2 ?_
  | with_reducible refine go_rge ?_
  | with_reducible refine go_revl ?_
  | (with_reducible apply go_dgk; (focus (tb_rel; done)); with_reducible assumption)
  | (with_reducible apply go_dpk; (focus (tb_rel; done)); (focus (lcg_sub; done)); intros)
  | (with_reducible apply go_disp; intros)
  | (with_reducible apply go_dsk2; (focus (tb_rel; done)); intros)
  | (with_reducible apply go_lrr; (focus (omega; done)); (focus (omega; done)); intros)
  | (with_reducible apply go_rvl; (focus (tb_rel; done)); intros)
  | (with_reducible apply go_lenRds; (focus (tb_rel; done)))
  | (with_reducible apply go_dgR; (focus (tb_rel; done)); intros)
  | (with_reducible apply go_meG; (focus (tb_rel; done)); (focus (with_unfolding_all exact rfl)))
  | (with_reducible apply go_mkG; (focus (tb_rel; done)); (focus (with_unfolding_all exact rfl)))
  | with_reducible refine go_makeK ?_
  | with_reducible refine go_makA ?_
  | fail "go"))
theorem ok_lmodel {f : Addr} {fd : FuncData} (F : Df K "_law_model" "_law_model" s_lmodel [] f fd) (B : Blt mg) (cDr : Ca P w K mg base 1 "_law_draw" sp_draw []) (cPk : Ca P w K mg base 2 "_law_pick" (sp_pick K) []) (cRo : Ca P w K mg base 3 "_law_rounds" (sp_rounds K) []) (cLl : Ca P w K mg base 3 "_law_length" (sp_llength K) []) (cLr : Ca P w K mg base 3 "_law_reach" (sp_lreach K) []) : FnOk P w K mg base CX0 4 f fd ["_law_pot_here"] (sp_lmodel K) := by
  refine dfOk F sc_lmodel (fun vs H Q E h => ?_) (fun cdv A outer s H vs Q E hr h => ?_)
  · obtain ⟨p, rfl, _⟩ := h
    rfl
  · obtain ⟨p, rfl, hp, q⟩ := h
    refine ⟨_, (pss_cons (ps_set (i := 1) sc_lmodel.nd rfl (Or.inl rfl) (pe_disp (pps_cons pe_str (pe_ca cRo hr (by decide) (by rfl) (pa_cons (pv 0) pa_nil)) (pps_cons pe_str (pe_lst (pa_cons (pe_ca cLl hr (by decide) (by rfl) (pa_cons (pv 0) pa_nil)) (pa_cons (pe_ca cLl hr (by decide) (by rfl) (pa_cons (pv 0) pa_nil)) pa_nil))) pps_nil)) (by rfl) (by rfl) (fun z => by cases z) (by decide)))
  (pss_cons (ps_if (pt_cmpR op_eq (pe_ca cDr hr (by decide) (by rfl) (pa_cons (pv 0) (pa_cons pe_int pa_nil))) pe_int (nomark _))
  (pss_one (ps_asg (pe_ix ix_list' (pe_dget (units1 hr) (pv 1) pe_str (fun _ _ => rfl)) pe_int (fun _ _ => rfl)) (pg_sub (pe_dget (units1 hr) (pv 1) pe_str (fun _ _ => rfl)) pe_int set_list)))
  pss_nil)
  (pss_cons (ps_dput (units1 hr) (pv 1) pe_str (pe_lst (pa_cons (pe_ca cLr hr (by decide) (by rfl) (pa_cons (pv 0) pa_nil)) (pa_cons (pe_ca cLr hr (by decide) (by rfl) (pa_cons (pv 0) pa_nil)) pa_nil))) (by rfl))
  (pss_cons (ps_dput (units1 hr) (pv 1) pe_str (pe_ca cPk hr (by decide) (by rfl) (pa_cons (pv 0) (pa_cons (pe_lst (pa_cons (pe_lst pa_nil) (pa_cons (pe_lst (pa_cons pe_str pa_nil)) (pa_cons (pe_lst (pa_cons pe_str pa_nil)) (pa_cons (pe_lst (pa_cons pe_str (pa_cons pe_str pa_nil))) pa_nil))))) pa_nil))) (by rfl))
  (pss_cons (ps_dput (units1 hr) (pv 1) pe_str (pe_ca cPk hr (by decide) (by rfl) (pa_cons (pv 0) (pa_cons (pe_lst (pa_cons pe_str (pa_cons pe_str pa_nil))) pa_nil))) (by rfl))
  (pss_one (ps_ret (pv 1)))))))), ?_⟩
    refine go_start (σ := [some _, none]) rfl ?_
    walk_at "go"
    rename_i D J0 nD zD eD R rs J1 rn ok p1 b1 v1 a b J2 d1 a0 b0 a1 b1' p2 b2 v2 c d J3 d2 c0 d0 c1 d1' p3 b3 L J4 nL z4 eL J5 bd5 e5 g J6 lg p6 b6
    have rn6 : Rn K J6 [L, p] R rs := (((((rn.pot b2 (by simp) p1).pot b3 (by simp) p2).add nL).same z4).bd bd5).pot b6 (by simp) (by tb_rel)
    have f1 : Dp K J6 v1 (pPr a b) := by tb_rel
    have f2 : Dp K J6 v2 (pPr c d) := by tb_rel
    have hLp : L ≠ p := p3.ne nL
    have hDp : D ≠ p := hp.ne nD
    have eL6 : J6 L = some (.lst [v1, v2]) := b6 _ _ hLp (bd_getl bd5 eL)
    have eD6 : J6 D = some (.dK (mergeK [] [(Sum.inr "rounds", R), (Sum.inr "lengths", .ref L)])) := by tb_rel
    have bu6 : Bu p H J6 := by tb_rel
    have k1 : valV (mergeK [] [(Sum.inr "rounds", R), (Sum.inr "lengths", V.ref L)]) (.inr "rounds") = some R := rfl
    have k2 : valV (mergeK [] [(Sum.inr "rounds", R), (Sum.inr "lengths", V.ref L)]) (.inr "lengths") = some (.ref L) := rfl
    have H0L : H L = none := by
      cases h : H L with
      | none => rfl
      | some o =>
        have b : Bu p H J3 := by tb_rel
        rw [b _ _ hLp h] at nL
        cases nL
    clear rn d1 d2 eL b1 b2 b3 z4 bd5 b6 p1 p2 p3 zD nL e5 eD
    by_cases hg : g = 0
    · walk_at "go"
      refine go_setL (k := 1) eL6 (by show 1 < 2; decide) ?_
      have bs : Bu L J6 (upd J6 L (.lst ([v1, v2].set 1 v1))) := Bu.set
      have eLs : upd J6 L (.lst ([v1, v2].set 1 v1)) L = some (.lst [v1, v1]) := upd_same
      have fs : Dp K (upd J6 L (.lst ([v1, v2].set 1 v1))) v1 (pPr a b) := f1.bu rfl bs eL6
      have dL : Dp K (upd J6 L (.lst ([v1, v2].set 1 v1))) (.ref L) (pPr2 a b a b) := .lst (SqL.of eLs) (.cons fs (.cons fs .nil))
      have dR := (rn6.bu bs (by simp) eL6).dp
      have eDs := bs _ _ (fun z => by rw [z, eL6] at eD6; cases eD6) eD6
      have ps : Pot (upd J6 L (.lst ([v1, v2].set 1 v1))) p := p6.upd hLp
      have bu : Bu p H (upd J6 L (.lst ([v1, v2].set 1 v1))) := fun x o nx e => by
        rw [upd_ne (ne_of_none e H0L)]
        exact bu6 x o nx e
      generalize upd J6 L (.lst ([v1, v2].set 1 v1)) = J at dL dR eDs ps bu ⊢
      clear eL6 eD6 rn6 f1 f2 fs bu6 p6
      obtain ⟨c, d, dL, c0, d0, c1, d1'⟩ : ∃ c d : Nat, Dp K J (.ref L) (pPr2 a b c d) ∧ 0 < c ∧ 0 < d ∧ c < 2 ^ 70 ∧ d < 2 ^ 70 := ⟨a, b, dL, a0, b0, a1, b1'⟩
      obtain ⟨kvs, hkl, k1, k2, eDs⟩ : ∃ kvs : List (Key × V), Ln kvs 2 ∧ valV kvs (.inr "rounds") = some R ∧ valV kvs (.inr "lengths") = some (.ref L) ∧ _ = some (HO.dK kvs) := ⟨mergeK [] [(Sum.inr "rounds", R), (Sum.inr "lengths", .ref L)], Nat.le_refl 2, k1, k2, eDs⟩
      have pfR := pf_rds rs
      walk_at "go"
      rename_i w1 e f I1 h1 e0 f0 f1 q1 y1 w2 g' h' I2 h2 g0 h0 h3 q2 y2 Z I3 nZ z3 eZ
      refine go_dpk (by tb_rel) (Ln.lt hkl (by decide)) ?_
      intro I4 bd4 e4
      have dZ : Dp K I3 (.ref Z) (pPr2 e f g' h') := .lst (SqL.of eZ) (.cons (by tb_rel) (.cons (by tb_rel) .nil))
      clear eZ
      obtain ⟨kl, k1, k2, k3, e4⟩ : ∃ kl : List (Key × V), (Ln kl 3 ∧ valV kl (.inr "rounds") = some R) ∧ valV kl (.inr "lengths") = some (.ref L) ∧ valV kl (.inr "reaches") = some (.ref Z) ∧ I4 D = some (.dK kl) := ⟨_, ⟨Nat.le_trans (putK_len _ _ _) (Nat.succ_le_succ hkl), by rw [valV_put, if_neg (by decide)]; exact k1⟩, by rw [valV_put, if_neg (by decide)]; exact k2, by rw [valV_put, if_pos rfl], e4⟩
      obtain ⟨hkl2, k1⟩ := k1
      walk_at "go"
      rename_i s1 I5 n5 z5 e5 s2 I6 n6 z6 e6 s3 I7 n7 z7 e7 s4 I8 n8 z8 e8 sl I9 n9 z9 e9 S I10 hS q10 y10
      have dS : ∃ l, Dp K I10 S (pAxs l) ∧ AxOk l := by
        simp only [List.mem_cons, List.not_mem_nil, or_false] at hS
        have A1 : Dp K I10 (.ref s1) (pAxs []) := pf_dp y10 (by tb_rel) rfl (show Dp K I9 (.ref s1) (.list []) by nest_cls)
        have A2 : Dp K I10 (.ref s2) (pAxs [0]) := pf_dp y10 (by tb_rel) rfl (show Dp K I9 (.ref s2) (.list [.str "east"]) by nest_cls)
        have A3 : Dp K I10 (.ref s3) (pAxs [1]) := pf_dp y10 (by tb_rel) rfl (show Dp K I9 (.ref s3) (.list [.str "north"]) by nest_cls)
        have A4 : Dp K I10 (.ref s4) (pAxs [1, 0]) := pf_dp y10 (by tb_rel) rfl (show Dp K I9 (.ref s4) (.list [.str "north", .str "east"]) by nest_cls)
        rcases hS with rfl | rfl | rfl | rfl
        · exact ⟨_, A1, by unfold AxOk; decide⟩
        · exact ⟨_, A2, by unfold AxOk; decide⟩
        · exact ⟨_, A3, by unfold AxOk; decide⟩
        · exact ⟨_, A4, by unfold AxOk; decide⟩
      obtain ⟨l, dS, okl⟩ := dS
      have pfl := pf_axs l
      refine go_dpk (by tb_rel) (Ln.lt hkl2 (by decide)) ?_
      intro I11 bd11 e11
      obtain ⟨km, k1, k2, k3, k4, e11⟩ : ∃ km : List (Key × V), (Ln km 4 ∧ valV km (.inr "rounds") = some R) ∧ valV km (.inr "lengths") = some (.ref L) ∧ valV km (.inr "reaches") = some (.ref Z) ∧ valV km (.inr "shut") = some S ∧ I11 D = some (.dK km) := ⟨_, ⟨Nat.le_trans (putK_len _ _ _) (Nat.succ_le_succ hkl2), by rw [valV_put, if_neg (by decide)]; exact k1⟩, by rw [valV_put, if_neg (by decide)]; exact k2, by rw [valV_put, if_neg (by decide)]; exact k3, by rw [valV_put, if_pos rfl], e11⟩
      obtain ⟨hkl3, k1⟩ := k1
      walk_at "go"
      rename_i kp I12 n12 z12 e12 kd I13 hk q13 y13
      obtain ⟨kx, rfl, hkx⟩ : ∃ kx : Str, kd = .str kx ∧ (kx = "box" ∨ kx = "sum") := by
        simp only [List.mem_cons, List.not_mem_nil, or_false] at hk
        rcases hk with rfl | rfl
        · exact ⟨_, rfl, .inl rfl⟩
        · exact ⟨_, rfl, .inr rfl⟩
      refine go_dpk (by tb_rel) (Ln.lt hkl3 (by decide)) ?_
      intro I14 bd14 e14
      walk_at "go"
      refine q _ ⟨rs, a, b, c, d, e, f, g', h', l, kx⟩ I14 ⟨⟨D, _, R, .ref L, .ref Z, S, rfl, e14, by rw [valV_put, if_neg (by decide)]; exact k1, by rw [valV_put, if_neg (by decide)]; exact k2, by rw [valV_put, if_neg (by decide)]; exact k3, by rw [valV_put, if_neg (by decide)]; exact k4, by rw [valV_put, if_pos rfl], (by tb_rel), (by tb_rel), (by tb_rel), (by tb_rel)⟩, ⟨ok, ⟨a0, a1⟩, ⟨b0, b1'⟩, ⟨c0, c1⟩, ⟨d0, d1'⟩, ⟨e0, f0⟩, f1, ⟨g0, h0⟩, h3, okl, hkx⟩⟩ (by tb_rel) (by tb_rel)
    · have dL : Dp K J6 (.ref L) (pPr2 a b c d) := .lst (SqL.of eL6) (.cons f1 (.cons f2 .nil))
      have dR := rn6.dp
      have eDs := eD6
      have ps := p6
      have bu := bu6
      clear eL6 eD6 rn6 f1 f2 bu6 p6
      obtain ⟨kvs, hkl, k1, k2, eDs⟩ : ∃ kvs : List (Key × V), Ln kvs 2 ∧ valV kvs (.inr "rounds") = some R ∧ valV kvs (.inr "lengths") = some (.ref L) ∧ _ = some (HO.dK kvs) := ⟨mergeK [] [(Sum.inr "rounds", R), (Sum.inr "lengths", .ref L)], Nat.le_refl 2, k1, k2, eDs⟩
      have pfR := pf_rds rs
      walk_at "go"
      rename_i w1 e f I1 h1 e0 f0 f1 q1 y1 w2 g' h' I2 h2 g0 h0 h3 q2 y2 Z I3 nZ z3 eZ
      refine go_dpk (by tb_rel) (Ln.lt hkl (by decide)) ?_
      intro I4 bd4 e4
      have dZ : Dp K I3 (.ref Z) (pPr2 e f g' h') := .lst (SqL.of eZ) (.cons (by tb_rel) (.cons (by tb_rel) .nil))
      clear eZ
      obtain ⟨kl, k1, k2, k3, e4⟩ : ∃ kl : List (Key × V), (Ln kl 3 ∧ valV kl (.inr "rounds") = some R) ∧ valV kl (.inr "lengths") = some (.ref L) ∧ valV kl (.inr "reaches") = some (.ref Z) ∧ I4 D = some (.dK kl) := ⟨_, ⟨Nat.le_trans (putK_len _ _ _) (Nat.succ_le_succ hkl), by rw [valV_put, if_neg (by decide)]; exact k1⟩, by rw [valV_put, if_neg (by decide)]; exact k2, by rw [valV_put, if_pos rfl], e4⟩
      obtain ⟨hkl2, k1⟩ := k1
      walk_at "go"
      rename_i s1 I5 n5 z5 e5 s2 I6 n6 z6 e6 s3 I7 n7 z7 e7 s4 I8 n8 z8 e8 sl I9 n9 z9 e9 S I10 hS q10 y10
      have dS : ∃ l, Dp K I10 S (pAxs l) ∧ AxOk l := by
        simp only [List.mem_cons, List.not_mem_nil, or_false] at hS
        have A1 : Dp K I10 (.ref s1) (pAxs []) := pf_dp y10 (by tb_rel) rfl (show Dp K I9 (.ref s1) (.list []) by nest_cls)
        have A2 : Dp K I10 (.ref s2) (pAxs [0]) := pf_dp y10 (by tb_rel) rfl (show Dp K I9 (.ref s2) (.list [.str "east"]) by nest_cls)
        have A3 : Dp K I10 (.ref s3) (pAxs [1]) := pf_dp y10 (by tb_rel) rfl (show Dp K I9 (.ref s3) (.list [.str "north"]) by nest_cls)
        have A4 : Dp K I10 (.ref s4) (pAxs [1, 0]) := pf_dp y10 (by tb_rel) rfl (show Dp K I9 (.ref s4) (.list [.str "north", .str "east"]) by nest_cls)
        rcases hS with rfl | rfl | rfl | rfl
        · exact ⟨_, A1, by unfold AxOk; decide⟩
        · exact ⟨_, A2, by unfold AxOk; decide⟩
        · exact ⟨_, A3, by unfold AxOk; decide⟩
        · exact ⟨_, A4, by unfold AxOk; decide⟩
      obtain ⟨l, dS, okl⟩ := dS
      have pfl := pf_axs l
      refine go_dpk (by tb_rel) (Ln.lt hkl2 (by decide)) ?_
      intro I11 bd11 e11
      obtain ⟨km, k1, k2, k3, k4, e11⟩ : ∃ km : List (Key × V), (Ln km 4 ∧ valV km (.inr "rounds") = some R) ∧ valV km (.inr "lengths") = some (.ref L) ∧ valV km (.inr "reaches") = some (.ref Z) ∧ valV km (.inr "shut") = some S ∧ I11 D = some (.dK km) := ⟨_, ⟨Nat.le_trans (putK_len _ _ _) (Nat.succ_le_succ hkl2), by rw [valV_put, if_neg (by decide)]; exact k1⟩, by rw [valV_put, if_neg (by decide)]; exact k2, by rw [valV_put, if_neg (by decide)]; exact k3, by rw [valV_put, if_pos rfl], e11⟩
      obtain ⟨hkl3, k1⟩ := k1
      walk_at "go"
      rename_i kp I12 n12 z12 e12 kd I13 hk q13 y13
      obtain ⟨kx, rfl, hkx⟩ : ∃ kx : Str, kd = .str kx ∧ (kx = "box" ∨ kx = "sum") := by
        simp only [List.mem_cons, List.not_mem_nil, or_false] at hk
        rcases hk with rfl | rfl
        · exact ⟨_, rfl, .inl rfl⟩
        · exact ⟨_, rfl, .inr rfl⟩
      refine go_dpk (by tb_rel) (Ln.lt hkl3 (by decide)) ?_
      intro I14 bd14 e14
      walk_at "go"
      refine q _ ⟨rs, a, b, c, d, e, f, g', h', l, kx⟩ I14 ⟨⟨D, _, R, .ref L, .ref Z, S, rfl, e14, by rw [valV_put, if_neg (by decide)]; exact k1, by rw [valV_put, if_neg (by decide)]; exact k2, by rw [valV_put, if_neg (by decide)]; exact k3, by rw [valV_put, if_neg (by decide)]; exact k4, by rw [valV_put, if_pos rfl], (by tb_rel), (by tb_rel), (by tb_rel), (by tb_rel)⟩, ⟨ok, ⟨a0, a1⟩, ⟨b0, b1'⟩, ⟨c0, c1⟩, ⟨d0, d1'⟩, ⟨e0, f0⟩, f1, ⟨g0, h0⟩, h3, okl, hkx⟩⟩ (by tb_rel) (by tb_rel)
theorem pr2_at {H : Hp} {v : V} {a b c d : Nat} (h : Dp K H v (pPr2 a b c d)) : ∃ l t u, v = .ref l ∧ SqL K H l [t, u] ∧ Dp K H t (pPr a b) ∧ Dp K H u (pPr c d) := by
  obtain ⟨l, xs, rfl, hs, ha⟩ := h.lstE
  cases ha with
  | cons h1 h2 =>
    cases h2 with
    | cons h2 h3 =>
      cases h3
      exact ⟨l, _, _, rfl, hs, h1, h2⟩
theorem num_upd {H : Hp} {D : Addr} {zs : List V} {o : HO} {v : V} {q : Rat} (e : H D = some (.lst zs)) (h : NumAt CR H v q) : NumAt CR (upd H D o) v q := h.imp id (rat_lst e)
theorem pr_bu {p l : Addr} {H H' : Hp} {t u : V} {a b : Nat} (hp : Pot H p) (s : Bu p H H') (hl : SqL K H l [t, u]) (ht : Dp K H t (pPr a b)) : SqL K H' l [t, u] := by
  obtain ⟨o, rfl, _⟩ := pair_at ht
  obtain ⟨x, y, ep, _⟩ := hp.ex
  rcases hl with (h | ⟨o, h⟩) | h
  · exact .inl (.inl (s _ _ (fun z => by rw [z, ep] at h; cases h) h))
  · exact .inl (.inr ⟨o, s _ _ (fun z => by rw [z, ep] at h; cases h) h⟩)
  · exact .inr h
/-- both of a pair of pairs, passed -/
theorem lc_two {σ : L2.St} {H : Hp} {Q : VK} {te : TE} {vs : List Nat} {j : Nat} {p l : Addr} {t u : V} {a b c d : Nat} (hp : Pot H p) (hs : ∀ H', Bu p H H' → SqL K H' l [t, u]) (h1 : Dp K H t (pPr a b)) (h2 : Dp K H u (pPr c d)) (hb : 0 < b ∧ b < 2 ^ 70) (hd' : 0 < d ∧ d < 2 ^ 70)
    (hw : ∀ x, wipe ((wipe σ vs).set j (some x)) vs = wipe σ vs)
    (hc : ∀ (x : V) (a b : Nat) (H1 : Hp) (Q' : VK), (0 < b ∧ b < 2 ^ 70) → Pot H1 p → Bu p H H1 → Dp K H1 x (pPr a b) → (∀ y H4, Pot H4 p → Bu p H1 H4 → NumAt CR H4 y (Rat.divInt a b) → Q' y H4) → te ((wipe σ vs).set j (some x)) H1 Q')
    (hd : ∀ D H' y z, H D = none → Pot H' p → Bu p H H' → H' D = some (.lst [y, z]) → NumAt CR H' y (Rat.divInt a b) → NumAt CR H' z (Rat.divInt c d) → Q (.ref D) H') : LcR (gName j) tYes te vs σ Q (Itl K l) H := by
  refine lcObjB (p := p) (walk_list (xs := [t, u])) (fun i y H => NumAt CR H y (if i = 0 then Rat.divInt a b else Rat.divInt c d)) hp (by show 2 ≤ 100000; decide) (fun i y H1 H2 hp s h => bu_num s hp h) (fun i y H1 D zs o e h => num_upd e h) (fun H' s => hs H' s) (fun i x H1 H2 Q' hi p1 b1 hy hq => ?_) (fun D H' ys nD p1 b1 eD yl hys => ?_) gName_mono
  · obtain ⟨rfl, hx⟩ := hy
    refine ⟨hw _, ?_⟩
    rcases (by have : i < 2 := hi; omega : i = 0 ∨ i = 1) with rfl | rfl
    · cases Option.some.inj hx
      exact hc _ a b _ _ hb p1 b1 (pf_dp b1 hp rfl h1) hq
    · cases Option.some.inj hx
      exact hc _ c d _ _ hd' p1 b1 (pf_dp b1 hp rfl h2) hq
  · obtain ⟨y1, y2, rfl⟩ : ∃ y1 y2, ys = [y1, y2] := by
      match ys, yl with
      | [y1, y2], _ => exact ⟨y1, y2, rfl⟩
    exact hd D H' _ _ nD p1 b1 eD (hys 0 y1 rfl) (hys 1 y2 rfl)
theorem ok_larea {f : Addr} {fd : FuncData} (F : Df K "_law_area" "_law_area" s_larea [] f fd) (B : Blt mg) (cPs : Ca P w K mg base 4 "_law_passed" (sp_passed K CR) []) (cLp : Ca P w K mg base 8 "_law_plan" (sp_lplan K C) []) (cMp : MaN P w K mg base 7 "Map" CM (sp_minit K C CR CM) 3 ["closed"] gApp) : FnOk P w K mg base CX0 9 f fd ["_law_pot_here", "_law_model_here"] (sp_larea K C CR CM) := by
  refine dfOk F sc_larea (fun vs H Q E h => ?_) (fun cdv A outer s H vs Q E hr h => ?_)
  · obtain ⟨p, u, m, rfl, _⟩ := h
    rfl
  · obtain ⟨p, u, m, rfl, hp, hm, q⟩ := h
    obtain ⟨D, kvs, R, L, Z, S, rfl, eD, h1, h2, h3, h4, h5, d1, d2, d3, d4⟩ := hm.ex
    have ok := hm.ok
    obtain ⟨l, t, u, rfl, hl, t1, t2⟩ := pr2_at d2
    refine ⟨_, (pss_cons (ps_asg (pe_lc (own := [("_law_pair", 4)]) (by rfl) sc_larea.nd (pi_list' (pe_dget (units1 hr) (pv 1) pe_str (fun _ _ => rfl))) (blkOk_by (own := [("_law_pair", 4)]) (N := ["_law_pot_here", "_law_model_here", "_law_wide", "_law_high", "_law_pair"]) (sc := defScope s_larea) (by decide +kernel)) (fun _ _ _ _ _ => (pg_name (i := 4) sc_larea.nd rfl (Or.inl rfl))) (fun _ _ _ _ _ => pts_nil) (fun _ _ _ _ _ => (pe_ca cPs hr (by decide) (by rfl) (pa_cons (pv 0) (pa_cons (pv 4) pa_nil))))) (pg_unl' 2 (pgs_cons (pg_name (i := 2) sc_larea.nd rfl (Or.inl rfl)) (pgs_cons (pg_name (i := 3) sc_larea.nd rfl (Or.inl rfl)) pgs_nil))))
  (pss_one (ps_ret (pe_man cMp hr (by decide) (by rfl) (pa_cons (pe_ca cLp hr (by decide) (by rfl) (pa_cons (pe_dget (units1 hr) (pv 1) pe_str (fun _ _ => rfl)) pa_nil)) (pa_cons (pv 2) (pa_cons (pv 3) pa_nil))) (pk_cons (pe_dget (units1 hr) (pv 1) pe_str (fun _ _ => rfl)) pk_nil))))), ?_⟩
    refine go_start (σ := [some _, some _, none, none, none]) rfl ?_
    walk_at "go"
    refine lc_two (CR := CR) (p := p) (a := m.a) (b := m.b) (c := m.c) (d := m.d) hp (fun H' s => pr_bu hp s hl t1) t1 t2 ok.b ok.d (fun _ => rfl) (fun x a b H1 Q' hb p1 b1 dx hq => ?_) (fun D2 H1 y z nD2 p1 b1 e1 ny nz => ?_)
    · obtain ⟨hb0, hb1⟩ := hb
      walk_at "go"
      exact hq _ _ (by assumption) (by assumption) (by assumption)
    · have okr := ok.rs
      have pfR := pf_rds m.rs
      have pfS := pf_axs m.shut
      walk_at "go"
      refine mk_map (x := m.x) (y := m.y) (by assumption) (by tb_rel) (div_pos ok.a.1 ok.b.1) (by tb_rel) (div_pos ok.c.1 ok.d.1) (by tb_rel) ok.shut ?_
      intro v H3 s3 hv
      exact q _ _ hv (by tb_rel) (by tb_rel)
theorem ok_lgauge {f : Addr} {fd : FuncData} (F : Df K "_law_gauge" "_law_gauge" s_lgauge [] f fd) (B : Blt mg) (cPs : Ca P w K mg base 4 "_law_passed" (sp_passed K CR) []) (cAr : Ca P w K mg base 9 "_law_area" (sp_larea K C CR CM) []) (cGa : Ma P w K mg base 7 "Gauge" CG (sp_ginit K C CR CM CG) []) : FnOk P w K mg base CX0 10 f fd ["_law_pot_here", "_law_model_here"] (sp_lgauge K C CR CM CG) := by
  refine dfOk F sc_lgauge (fun vs H Q E h => ?_) (fun cdv A outer s H vs Q E hr h => ?_)
  · obtain ⟨p, u, m, rfl, _⟩ := h
    rfl
  · obtain ⟨p, u, m, rfl, hp, hm, q⟩ := h
    obtain ⟨D, kvs, R, L, Z, S, rfl, eD, h1, h2, h3, h4, h5, d1, d2, d3, d4⟩ := hm.ex
    have ok := hm.ok
    obtain ⟨l, t, u, rfl, hl, t1, t2⟩ := pr2_at d3
    have f0 : 0 < m.f := Nat.lt_of_lt_of_le ok.e.1 ok.e.2
    have h0 : 0 < m.h := Nat.lt_of_lt_of_le ok.g.1 ok.g.2
    have f1 := ok.f
    have h1' := ok.h
    have big : ∀ {n : Nat}, n ≤ 12 → n < 2 ^ 4400 := fun h => Nat.lt_of_le_of_lt h (Nat.lt_of_lt_of_le (by decide : 12 < 2 ^ 4) (Nat.pow_le_pow_right (by decide) (by decide)))
    refine ⟨_, (pss_cons (ps_asg (pe_lc (own := [("_law_pair", 4)]) (by rfl) sc_lgauge.nd (pi_list' (pe_dget (units1 hr) (pv 1) pe_str (fun _ _ => rfl))) (blkOk_by (own := [("_law_pair", 4)]) (N := ["_law_pot_here", "_law_model_here", "_law_wide", "_law_high", "_law_pair"]) (sc := defScope s_lgauge) (by decide +kernel)) (fun _ _ _ _ _ => (pg_name (i := 4) sc_lgauge.nd rfl (Or.inl rfl))) (fun _ _ _ _ _ => pts_nil) (fun _ _ _ _ _ => (pe_ca cPs hr (by decide) (by rfl) (pa_cons (pv 0) (pa_cons (pv 4) pa_nil))))) (pg_unl' 2 (pgs_cons (pg_name (i := 2) sc_lgauge.nd rfl (Or.inl rfl)) (pgs_cons (pg_name (i := 3) sc_lgauge.nd rfl (Or.inl rfl)) pgs_nil))))
  (pss_one (ps_ret (pe_ma cGa hr (by decide) (by rfl) (pa_cons (pe_ca cAr hr (by decide) (by rfl) (pa_cons (pv 0) (pa_cons (pv 1) pa_nil))) (pa_cons (pv 2) (pa_cons (pv 3) (pa_cons (pe_dget (units1 hr) (pv 1) pe_str (fun _ _ => rfl)) pa_nil)))))))), ?_⟩
    refine go_start (σ := [some _, some _, none, none, none]) rfl ?_
    walk_at "go"
    refine lc_two (CR := CR) (p := p) (a := m.e) (b := m.f) (c := m.g) (d := m.h) hp (fun H' s => pr_bu hp s hl t1) t1 t2 ⟨f0, Nat.lt_of_le_of_lt f1 (by decide)⟩ ⟨h0, Nat.lt_of_le_of_lt h1' (by decide)⟩ (fun _ => rfl) (fun x a b H1 Q' hb p1 b1 dx hq => ?_) (fun D2 H1 y z nD2 p1 b1 e1 ny nz => ?_)
    · obtain ⟨hb0, hb1⟩ := hb
      walk_at "go"
      exact hq _ _ (by assumption) (by assumption) (by assumption)
    · walk_at "go"
      rename_i v H2 hv p2 b2
      refine mk_gauge (p := m.p) (q := m.q) hv (by tb_rel) (sz_div (big (Nat.le_trans ok.e.2 f1)) (big f1) f0) (div_pos ok.e.1 f0) (div_le1 ok.e.2 f0) (by tb_rel) (sz_div (big (Nat.le_trans ok.g.2 h1')) (big h1') h0) (div_pos ok.g.1 h0) (div_le1 ok.g.2 h0) ok.kd ?_
      intro g G H3 nG s3 hg
      refine q _ _ _ ?_ hg (by tb_rel) (by tb_rel)
      cases hh : H G with
      | none => rfl
      | some o =>
        have b : Bu p H H2 := by tb_rel
        rw [b _ _ (p2.ne nG) hh] at nG
        cases nG
end
end T
set_option Elab.async false
set_option maxRecDepth 100000
set_option maxHeartbeats 4000000
set_option exponentiation.threshold 6000
/-! The greatest distances in plain numbers. -/
namespace T
open PySem L2 Mv
theorem nq_lt {t b s c : Nat} (hb : 0 < b) (hc : 0 < c) : Rat.divInt t b < Rat.divInt s c ↔ t * c < s * b := by
  have b0 : (0 : Rat) < ((b : Int) : Rat) := Rat.intCast_pos.mpr (by omega)
  have c0 : (0 : Rat) < ((c : Int) : Rat) := Rat.intCast_pos.mpr (by omega)
  have bn : ((b : Int) : Rat) ≠ 0 := (Rat.ne_of_lt b0).symm
  have cn : ((c : Int) : Rat) ≠ 0 := (Rat.ne_of_lt c0).symm
  rw [Rat.divInt_eq_div, Rat.divInt_eq_div, ← Rat.mul_lt_mul_right b0, ← Rat.mul_lt_mul_right c0, Rat.div_mul_cancel bn, Rat.mul_assoc, Rat.mul_comm ((b : Int) : Rat), ← Rat.mul_assoc, Rat.div_mul_cancel cn,
    ← Rat.intCast_mul, ← Rat.intCast_mul, Rat.intCast_lt_intCast, ← Int.natCast_mul, ← Int.natCast_mul, Int.ofNat_lt]
theorem nq_val (a b c e f : Nat) : Rat.divInt a b / (((c : Nat) : Int) : Rat) * Rat.divInt e f = Rat.divInt ((a * e : Nat) : Int) ((b * f * c : Nat) : Int) := by
  rw [Rat.div_def, ← divInt_one, Rat.inv_divInt, Rat.divInt_mul_divInt, Rat.divInt_mul_divInt, Int.mul_one, Int.natCast_mul, Int.natCast_mul, Int.natCast_mul]
  congr 1
  rw [Int.mul_assoc, Int.mul_comm (c : Int), ← Int.mul_assoc]
theorem nq_mul {t u g : Nat} (hg : 0 < g) : Rat.divInt t ((u * g : Nat) : Int) * (((g : Nat) : Int) : Rat) = Rat.divInt t u := by
  rw [← divInt_one, Rat.divInt_mul_divInt, Int.mul_one, Int.natCast_mul, Rat.divInt_mul_right (by omega)]
/-- the law's own: both tops and bottoms, and the lesser -/
def Md.u0 (m : Md) (c : Nat) : Nat := m.b * m.f * c
def Md.u1 (m : Md) (c : Nat) : Nat := m.d * m.h * c
def Md.t0 (m : Md) : Nat := m.a * m.e
def Md.t1 (m : Md) : Nat := m.c * m.g
def Md.top (m : Md) (c d : Nat) : Nat × Nat := if m.t1 * m.u0 c < m.t0 * m.u1 d then (m.t1, m.u1 d) else (m.t0, m.u0 c)
abbrev Md.bnd (m : Md) (f : Nat) : Rat := T.bnd m.rs m.x m.y m.p m.q f
section
variable {m : Md} (ok : MdOk m)
include ok
theorem MdOk.f0 : 0 < m.f := Nat.lt_of_lt_of_le ok.e.1 ok.e.2
theorem MdOk.h0 : 0 < m.h := Nat.lt_of_lt_of_le ok.g.1 ok.g.2
theorem MdOk.u0 {c : Nat} (hc : 0 < c) : 0 < m.u0 c := Nat.mul_pos (Nat.mul_pos ok.b.1 ok.f0) hc
theorem MdOk.u1 {c : Nat} (hc : 0 < c) : 0 < m.u1 c := Nat.mul_pos (Nat.mul_pos ok.d.1 ok.h0) hc
theorem MdOk.bnd_eq (f : Nat) : m.bnd f = if m.t0 * m.u1 (Pm.cnt m.rs 1 f) < m.t1 * m.u0 (Pm.cnt m.rs 0 f) then Rat.divInt m.t0 (m.u0 (Pm.cnt m.rs 0 f)) else Rat.divInt m.t1 (m.u1 (Pm.cnt m.rs 1 f)) := by
  unfold Md.bnd bnd
  rw [nq_val, nq_val]
  show (if Rat.divInt m.t0 (m.u0 (Pm.cnt m.rs 0 f)) < Rat.divInt m.t1 (m.u1 (Pm.cnt m.rs 1 f)) then Rat.divInt m.t0 (m.u0 (Pm.cnt m.rs 0 f)) else Rat.divInt m.t1 (m.u1 (Pm.cnt m.rs 1 f))) = _
  have e := nq_lt (t := m.t0) (s := m.t1) (ok.u0 (ok.rs.cnt_pos 0 f)) (ok.u1 (ok.rs.cnt_pos 1 f))
  by_cases h : m.t0 * m.u1 (Pm.cnt m.rs 1 f) < m.t1 * m.u0 (Pm.cnt m.rs 0 f)
  · rw [if_pos h, if_pos (e.mpr h)]
  · rw [if_neg h, if_neg (fun z => h (e.mp z))]
theorem MdOk.top_eq (f : Nat) : Rat.divInt ((m.top (Pm.cnt m.rs 0 f) (Pm.cnt m.rs 1 f)).1 : Nat) ((m.top (Pm.cnt m.rs 0 f) (Pm.cnt m.rs 1 f)).2 : Nat) = m.bnd f := by
  rw [ok.bnd_eq f]
  have h0 := ok.u0 (ok.rs.cnt_pos 0 f)
  have h1 := ok.u1 (ok.rs.cnt_pos 1 f)
  unfold Md.top
  generalize m.u0 (Pm.cnt m.rs 0 f) = u at *
  generalize m.u1 (Pm.cnt m.rs 1 f) = v at *
  by_cases a : m.t1 * u < m.t0 * v
  · rw [if_pos a, if_neg (by omega)]
  · rw [if_neg a]
    by_cases b : m.t0 * v < m.t1 * u
    · rw [if_pos b]
    · rw [if_neg b, Rat.divInt_eq_divInt_iff (by omega) (by omega), ← Int.natCast_mul, ← Int.natCast_mul]
      have : m.t0 * v = m.t1 * u := by omega
      rw [this]
theorem MdOk.top_pos (f : Nat) : 0 < (m.top (Pm.cnt m.rs 0 f) (Pm.cnt m.rs 1 f)).2 := by
  unfold Md.top
  split
  · exact ok.u1 (ok.rs.cnt_pos 1 f)
  · exact ok.u0 (ok.rs.cnt_pos 0 f)
theorem cnt_mono {rs : List (List Pm.Cut)} (h : Pm.RdsOk rs) (ax f : Nat) : Pm.cnt rs ax f ≤ Pm.cnt rs ax (f + 1) := by
  show _ ≤ Pm.cnt rs ax f * _
  exact Nat.le_mul_of_pos_right _ (h.W ax f)
omit ok in
theorem cnt_le {rs : List (List Pm.Cut)} (h : Pm.RdsOk rs) {ax : Nat} (hax : ax < 2) : ∀ f, Pm.cnt rs ax f ≤ 32 ^ f
  | 0 => Nat.le_refl _
  | f + 1 => by
    show Pm.cnt rs ax f * Pm.W rs ax f ≤ 32 ^ f * 32
    refine Nat.mul_le_mul (cnt_le h hax f) ?_
    rcases (by omega : ax = 0 ∨ ax = 1) with rfl | rfl
    · exact (h.W32 f).1
    · exact (h.W32 f).2
omit ok in
theorem cnt_row (rs : List (List Pm.Cut)) (ax : Nat) : ∀ f, Pm.cnt rs ax (f + rs.length) = Pm.cnt rs ax f * Pm.cnt rs ax rs.length
  | 0 => by rw [Nat.zero_add]; show _ = 1 * _; rw [Nat.one_mul]
  | f + 1 => by
    rw [show f + 1 + rs.length = (f + rs.length) + 1 by omega]
    show Pm.cnt rs ax (f + rs.length) * Pm.W rs ax (f + rs.length) = Pm.cnt rs ax f * Pm.W rs ax f * _
    rw [cnt_row rs ax f, show Pm.W rs ax (f + rs.length) = Pm.W rs ax f by unfold Pm.W; unfold Pm.rnd; rw [Nat.add_mod_right], Nat.mul_assoc, Nat.mul_comm (Pm.cnt rs ax rs.length), ← Nat.mul_assoc]
/-- it never grows -/
theorem MdOk.fall (f : Nat) : ¬ m.bnd f < m.bnd (f + 1) := by
  rw [ok.bnd_eq f, ok.bnd_eq (f + 1)]
  have p0 := ok.rs.cnt_pos 0
  have p1 := ok.rs.cnt_pos 1
  have m0 : m.u0 (Pm.cnt m.rs 0 f) ≤ m.u0 (Pm.cnt m.rs 0 (f + 1)) := Nat.mul_le_mul_left _ (cnt_mono ok ok.rs 0 f)
  have m1 : m.u1 (Pm.cnt m.rs 1 f) ≤ m.u1 (Pm.cnt m.rs 1 (f + 1)) := Nat.mul_le_mul_left _ (cnt_mono ok ok.rs 1 f)
  have a := ok.u0 (p0 f)
  have b := ok.u0 (p0 (f + 1))
  have c := ok.u1 (p1 f)
  have d := ok.u1 (p1 (f + 1))
  generalize m.u0 (Pm.cnt m.rs 0 f) = A at *
  generalize m.u0 (Pm.cnt m.rs 0 (f + 1)) = B at *
  generalize m.u1 (Pm.cnt m.rs 1 f) = C at *
  generalize m.u1 (Pm.cnt m.rs 1 (f + 1)) = D at *
  have x0 : ∀ t, t * A ≤ t * B := fun t => Nat.mul_le_mul_left _ m0
  have x1 : ∀ t, t * C ≤ t * D := fun t => Nat.mul_le_mul_left _ m1
  have := x0 m.t0
  have := x0 m.t1
  have := x1 m.t0
  have := x1 m.t1
  by_cases h : m.t0 * C < m.t1 * A
  · rw [if_pos h]
    by_cases g : m.t0 * D < m.t1 * B
    · rw [if_pos g, nq_lt a b]
      omega
    · rw [if_neg g, nq_lt a d]
      have : m.t1 * B ≤ m.t0 * D := by omega
      have e1 : (m.t1 * B) * A ≤ (m.t0 * D) * A := Nat.mul_le_mul_right _ this
      intro z
      have e2 : (m.t0 * D) * B < (m.t1 * A) * B := Nat.mul_lt_mul_of_pos_right z b
      have e3 : (m.t0 * D) * A ≤ (m.t0 * D) * B := Nat.mul_le_mul_left _ m0
      rw [Nat.mul_assoc, Nat.mul_comm B A, ← Nat.mul_assoc] at e1
      omega
  · rw [if_neg h]
    by_cases g : m.t0 * D < m.t1 * B
    · rw [if_pos g, nq_lt c b]
      intro z
      have e1 : (m.t1 * B) * D < (m.t0 * C) * D := Nat.mul_lt_mul_of_pos_right z d
      have e2 : (m.t0 * D) * C < (m.t1 * B) * C := Nat.mul_lt_mul_of_pos_right g c
      have e3 : (m.t1 * B) * C ≤ (m.t1 * B) * D := Nat.mul_le_mul_left _ m1
      rw [Nat.mul_assoc m.t0 C, Nat.mul_comm C D, ← Nat.mul_assoc] at e1
      omega
    · rw [if_neg g, nq_lt c d]
      omega
/-- a row of rounds later -/
theorem MdOk.row (f : Nat) : m.bnd (f + m.rs.length) * (((Pm.cnt m.rs 0 m.rs.length : Nat) : Int) : Rat) = m.bnd f := by
  have g0 := ok.rs.cnt_pos 0 m.rs.length
  have bal := ok.rs.bal
  rw [ok.bnd_eq f, ok.bnd_eq (f + m.rs.length), cnt_row, cnt_row, ← bal]
  have e0 : m.u0 (Pm.cnt m.rs 0 f * Pm.cnt m.rs 0 m.rs.length) = m.u0 (Pm.cnt m.rs 0 f) * Pm.cnt m.rs 0 m.rs.length := (Nat.mul_assoc _ _ _).symm
  have e1 : m.u1 (Pm.cnt m.rs 1 f * Pm.cnt m.rs 0 m.rs.length) = m.u1 (Pm.cnt m.rs 1 f) * Pm.cnt m.rs 0 m.rs.length := (Nat.mul_assoc _ _ _).symm
  rw [e0, e1]
  generalize Pm.cnt m.rs 0 m.rs.length = G at *
  rw [← Nat.mul_assoc, ← Nat.mul_assoc]
  by_cases h : m.t0 * m.u1 (Pm.cnt m.rs 1 f) < m.t1 * m.u0 (Pm.cnt m.rs 0 f)
  · rw [if_pos h, if_pos (Nat.mul_lt_mul_of_pos_right h g0), nq_mul g0]
  · rw [if_neg h, if_neg (fun z => h (Nat.lt_of_mul_lt_mul_right z)), nq_mul g0]
/-! sizes -/
theorem MdOk.cn {ax : Nat} (hax : ax < 2) {f : Nat} (hf : f ≤ 150) : Pm.cnt m.rs ax f < 2 ^ 751 := by
  refine Nat.lt_of_le_of_lt (cnt_le ok.rs hax f) ?_
  refine Nat.lt_of_le_of_lt (Nat.pow_le_pow_right (by decide) hf) ?_
  rw [show (32 : Nat) = 2 ^ 5 from rfl, ← Nat.pow_mul]
  exact Nat.pow_lt_pow_right (by decide) (by decide)
omit ok in
theorem mul2 {x y i j k : Nat} (hx : x < 2 ^ i) (hy : y < 2 ^ j) (h : i + j ≤ k) : x * y < 2 ^ k := by
  refine Nat.lt_of_lt_of_le (Nat.mul_lt_mul'' hx hy) ?_
  rw [← Nat.pow_add]
  exact Nat.pow_le_pow_right (by decide) h
omit ok in
theorem lt2 {x i k : Nat} (hx : x < 2 ^ i) (h : i ≤ k) : x < 2 ^ k := Nat.lt_of_lt_of_le hx (Nat.pow_le_pow_right (by decide) h)
omit ok in
theorem le12 {n : Nat} (h : n ≤ 12) : n < 2 ^ 4 := Nat.lt_of_le_of_lt h (by decide)
theorem MdOk.t0b : m.t0 < 2 ^ 80 := mul2 ok.a.2 (le12 (Nat.le_trans ok.e.2 ok.f)) (by decide)
theorem MdOk.t1b : m.t1 < 2 ^ 80 := mul2 ok.c.2 (le12 (Nat.le_trans ok.g.2 ok.h)) (by decide)
theorem MdOk.u0b {f : Nat} (hf : f ≤ 150) : m.u0 (Pm.cnt m.rs 0 f) < 2 ^ 900 := mul2 (mul2 ok.b.2 (le12 ok.f) (k := 80) (by decide)) (ok.cn (by decide) hf) (by decide)
theorem MdOk.u1b {f : Nat} (hf : f ≤ 150) : m.u1 (Pm.cnt m.rs 1 f) < 2 ^ 900 := mul2 (mul2 ok.d.2 (le12 ok.h) (k := 80) (by decide)) (ok.cn (by decide) hf) (by decide)
theorem MdOk.top_sz {f : Nat} (hf : f ≤ 150) : (m.top (Pm.cnt m.rs 0 f) (Pm.cnt m.rs 1 f)).2 < 2 ^ 900 := by
  unfold Md.top
  split
  · exact ok.u1b hf
  · exact ok.u0b hf
omit ok in
theorem sz_nat {n : Nat} (h : n < 2 ^ 4400) : SzQ (((n : Nat) : Int) : Rat) := by
  rw [← divInt_one]
  exact sz_div (b := 1) h (Nat.one_lt_two_pow (by decide)) (by decide)
theorem MdOk.szg {f : Nat} (hf : f ≤ 150) : SzG m.rs m.x m.y m.p m.q f := by
  have c0 := ok.cn (ax := 0) (by decide) hf
  have c1 := ok.cn (ax := 1) (by decide) hf
  have z0 := ok.rs.cnt_pos 0 f
  have z1 := ok.rs.cnt_pos 1 f
  have v : ∀ (a b c : Nat), Rat.divInt a b / (((c : Nat) : Int) : Rat) = Rat.divInt a ((b * c : Nat) : Int) := fun a b c => by
    rw [Rat.div_def, ← divInt_one, Rat.inv_divInt, Rat.divInt_mul_divInt, Int.mul_one, Int.natCast_mul]
  refine ⟨sz_div (lt2 ok.a.2 (by decide)) (lt2 ok.b.2 (by decide)) ok.b.1, sz_div (lt2 ok.c.2 (by decide)) (lt2 ok.d.2 (by decide)) ok.d.1, sz_nat (lt2 c0 (by decide)), sz_nat (lt2 c1 (by decide)), sz_div (lt2 (le12 (Nat.le_trans ok.e.2 ok.f)) (by decide)) (lt2 (le12 ok.f) (by decide)) ok.f0, sz_div (lt2 (le12 (Nat.le_trans ok.g.2 ok.h)) (by decide)) (lt2 (le12 ok.h) (by decide)) ok.h0, ?_, ?_, ?_, ?_⟩
  · rw [v]
    exact sz_div (lt2 ok.a.2 (by decide)) (mul2 ok.b.2 c0 (by decide)) (Nat.mul_pos ok.b.1 z0)
  · rw [v]
    exact sz_div (lt2 ok.c.2 (by decide)) (mul2 ok.d.2 c1 (by decide)) (Nat.mul_pos ok.d.1 z1)
  · rw [nq_val]
    exact sz_div (lt2 ok.t0b (by decide)) (lt2 (ok.u0b hf) (by decide)) (ok.u0 z0)
  · rw [nq_val]
    exact sz_div (lt2 ok.t1b (by decide)) (lt2 (ok.u1b hf) (by decide)) (ok.u1 z1)
theorem MdOk.szb {f : Nat} (hf : f ≤ 150) : SzQ (m.bnd f) := by
  have h := ok.szg hf
  unfold Md.bnd bnd
  split
  · exact h.2.2.2.2.2.2.2.2.1
  · exact h.2.2.2.2.2.2.2.2.2
end
end T
set_option Elab.async false
set_option maxRecDepth 100000
set_option maxHeartbeats 4000000
set_option exponentiation.threshold 6000
namespace T
open PySem L2 Mv
abbrev s_lcounts : Stmt := top 77
theorem sc_lcounts : FnScope ["_law_rounds_here", "_law_many", "_law_found", "_law_at", "_law_line", "_law_parts"] ["_law_rounds_here", "_law_many"] (defScope s_lcounts) := ⟨rfl, rfl, rfl, by decide +kernel, rfl, by decide +kernel, by decide +kernel⟩
abbrev s_lless : Stmt := top 78
theorem sc_lless : FnScope ["_law_one", "_law_other"] ["_law_one", "_law_other"] (defScope s_lless) := ⟨rfl, rfl, rfl, by decide +kernel, rfl, by decide +kernel, by decide +kernel⟩
abbrev s_ltopat : Stmt := top 79
theorem sc_ltopat : FnScope ["_law_model_here", "_law_counts_here", "_law_found", "_law_k", "_law_pair"] ["_law_model_here", "_law_counts_here"] (defScope s_ltopat) := ⟨rfl, rfl, rfl, by decide +kernel, rfl, by decide +kernel, by decide +kernel⟩
abbrev s_ltop : Stmt := top 80
theorem sc_ltop : FnScope ["_law_model_here", "_law_deep"] ["_law_model_here", "_law_deep"] (defScope s_ltop) := ⟨rfl, rfl, rfl, by decide +kernel, rfl, by decide +kernel, by decide +kernel⟩
abbrev s_ltold : Stmt := top 81
theorem sc_ltold : FnScope ["_law_told", "_law_due"] ["_law_told", "_law_due"] (defScope s_ltold) := ⟨rfl, rfl, rfl, by decide +kernel, rfl, by decide +kernel, by decide +kernel⟩
section
variable {P : Program} {w : World} {K : PySem.W.Frag} {mg : Str → Option Value} {base : Heap} {C AX CR CM CG KD : Addr}
theorem go_mulWN {m' n' : Nat} {H : Hp} {Q : VK} (h : CMulW (m' : Int) (n' : Int)) (q : Q (.int ((m' * n' : Nat) : Int)) H) : rI CMulW (fun i j => .int (i * j)) (.int (m' : Int)) (.int (n' : Int)) H Q := ⟨_, _, rfl, rfl, h, by rw [Int.natCast_mul] at q; exact q⟩
theorem cmulN {x y i j : Nat} (hx : x < 2 ^ i) (hy : y < 2 ^ j) (hi : 0 < i) (hj : 0 < j) (h : i + j ≤ 1000000) : CMulW (x : Int) (y : Int) := wide_mul (by rw [Int.natAbs_natCast]; exact hx) (by rw [Int.natAbs_natCast]; exact hy) hi hj h
/-- == and != of Ratios; isinstance; times a number -/
theorem go_eqR {H : Hp} {u v : V} {q r : Rat} {Q : VK} (I : ClsI K CR) (h1 : RatAt CR H v q) (h2 : RatAt CR H u r) (k : Q (.bl (decide (q = r))) H) : rEqO K CR (sp_req CR) v u H Q := by
  obtain ⟨a, dx, rfl, ea⟩ := h1
  obtain ⟨b, dy, rfl, eb⟩ := h2
  exact ⟨a, dx, _, .ref CR, rfl, ea, I.ty eb, I.nf, _, _, q, r, rfl, rat_of ea, rat_of eb, k⟩
theorem go_neR {H : Hp} {u v : V} {q r : Rat} {Q : VK} (I : ClsI K CR) (h1 : RatAt CR H v q) (h2 : RatAt CR H u r) (k : Q (.bl (!decide (q = r))) H) : rNeO K CR (sp_req CR) v u H Q := by
  obtain ⟨a, dx, rfl, ea⟩ := h1
  obtain ⟨b, dy, rfl, eb⟩ := h2
  exact ⟨a, dx, _, .ref CR, rfl, ea, I.ty eb, I.nf, _, _, q, r, rfl, rat_of ea, rat_of eb, _, rfl, k⟩
theorem go_isiR {H : Hp} {v : V} {q : Rat} {Q : VK} (I : ClsI K CR) (h : RatAt CR H v q) (k : Q (.bl true) H) : rIsi K [v, .ref CR] H Q := by
  obtain ⟨a, dx, rfl, ea⟩ := h
  exact go_isi (I.ty ea) I.me k
/-- what stands of C op int -/
structure BnI (K : PySem.W.Frag) (C : Addr) (op : Operator) : Prop where
  ex : ∃ fo ro rc, PySem.W.findIn K (.ref C) (PySem.dunderR op.info.2) = some rc ∧ (rc = none ∨ ∃ g : Addr, rc = some (.ref g)) ∧ PySem.W.findIn K (.type "int") (PySem.dunder op.info.2) = some fo ∧ PySem.W.findIn K (.type "int") (PySem.dunderR op.info.2) = some ro ∧ PySem.W.subIn K (.type "int") (.ref C) = some false
theorem op_binI' {X : Cx} {k j : Nat} {m : Str} {sp : Sp} {op : Operator} (c : Op3 P w K mg base k C m sp) (r : BnI K C op) (hr : Room j X.A) (hk : k ≤ j) (hm : PySem.dunder op.info.2 = m := by decide +kernel) (e : Over X P w K mg base := by exact ⟨rfl, rfl, rfl, rfl, rfl⟩) : OpR X (binaryOp op) (rBinI C sp) := by
  obtain ⟨rfl, rfl, rfl, rfl, rfl⟩ := e
  obtain ⟨fo, ro, rc, h1, h2, h3, h4, h5⟩ := r.ex
  exact op_binI c (hr.mono hk) h1 h2 h3 h4 h5 hm
theorem go_mulR {H : Hp} {v : V} {q : Rat} {i : Int} {Q : VK} (h : RatAt CR H v q) (s1 : SzQ q) (s2 : SzQ (i : Rat)) (k : ∀ b H', Same H H' → RatAt CR H' b (q * (i : Rat)) → Q b H') : rBinI CR (sp_rmul CR) v (.int i) H Q := by
  obtain ⟨a, dx, rfl, ea⟩ := h
  exact ⟨a, dx, _, i, rfl, rfl, ea, _, _, q, _, rfl, rat_of ea, num_int i, s1, s2, fun b dy H' z e => k _ _ z (rat_of e)⟩
/-- for i, x in enumerate(xs) -/
theorem forEnum {bb : Bool} {σ : L2.St} {H : Hp} {n b c : L2.St → Hp → Prop} {rt : VK} {g : TG} {tb : TS} {a : Addr} {xs : List V} (Pv : Nat → L2.St → Hp → Prop) (h0 : Pv 0 σ H) (hG : ∀ i σ H, Pv i σ H → SqK bb K H a xs)
    (hs : ∀ (i : Nat) x T σ H H', i < xs.length → xs[i]? = some x → Pv i σ H → H T = none → Same H H' → H' T = some (.tup [.int (i : Int), x]) → g (.ref T) σ H' fun σ2 H2 => tb ⟨Pv (i + 1), rt, n, Pv (i + 1)⟩ σ2 H2) (hd : ∀ σ H, Pv xs.length σ H → n σ H) :
    ForR g tb ⟨n, rt, b, c⟩ σ (IteK bb K a) H :=
  for_it (D := ⟨n, rt, b, c⟩) walk_enumK Pv h0 (fun i σ H _ h => hG i σ H h) (fun i x σ H H' hi hp hy => by
    obtain ⟨T, x', y', rfl, hT, rfl, hx, hy⟩ := hy
    obtain rfl := Option.some.inj hx
    exact hs i y' T σ H _ hi hy hp hT (same_new hT) upd_same) hd
/-- len of rounds; the rounds of the law's dict -/
theorem go_lenRds {H : Hp} {v : V} {rs : List (List Pm.Cut)} {Q : VK} (h : Dp K H v (pRds rs)) (q : Q (.int (rs.length : Int)) H) : rLenSeq K [v] H Q := by
  obtain ⟨a, xs, rfl, hs, ha⟩ := h.lstE
  exact ⟨a, xs, rfl, .inl hs, by rw [ha.len, List.length_map]; exact q⟩
theorem go_dgR {H : Hp} {v : V} {m : Md} {Q : VK} (h : MdAt K H v m) (q : ∀ R, Dp K H R (pRds m.rs) → Q R H) : DgK v Q (.str "rounds") H := by
  obtain ⟨D, kvs, R, L, Z, S, rfl, eD, h1, h2, h3, h4, h5, d1, d2, d3, d4⟩ := h.ex
  exact go_dgk eD h1 (q _ d1)
/-- a method of a gauge -/
theorem ga_lk {m : Str} {a r k s b : V} (hn : (gaF .non .non .non .non .non).lookup m = none) : (gaF a r k s b).lookup m = none := by
  have z : ∀ (l l' : List (Str × V)), l.map (·.1) = l'.map (·.1) → l.lookup m = none → l'.lookup m = none := by
    intro l
    induction l with
    | nil => intro l' e _; cases l' with
      | nil => rfl
      | cons _ _ => cases e
    | cons a l ih =>
      intro l' e h
      cases l' with
      | nil => cases e
      | cons b l' =>
        simp only [List.map_cons, List.cons.injEq] at e
        rw [List.lookup_cons] at h ⊢
        rw [← e.1]
        cases hh : (m == a.1) with
        | true => rw [hh] at h; cases h
        | false => rw [hh] at h; exact ih l' e.2 h
  exact z (gaF .non .non .non .non .non) _ rfl hn
theorem go_meG {H : Hp} {v : V} {D : Addr} {rs : List (List Pm.Cut)} {x y p q : Rat} {m : Str} {sp : Sp} {E : XK} {t : TA} {σ : L2.St} {Q : VK} (h : GauAt K C CR CM CG H v D rs x y p q) (hn : (gaF .non .non .non .non .non).lookup m = none) (k : t σ H fun vs H2 => sp (v :: vs) H2 Q E) : MeR CG m sp [] E t σ Q v H := by
  obtain ⟨a, dx, mm, t', kk, s', b1, b2, kvs, rfl, ea, _⟩ := h.ex
  exact go_mer ea (ga_lk hn) k
theorem go_mkG {H : Hp} {v : V} {D : Addr} {rs : List (List Pm.Cut)} {x y p q : Rat} {m : Str} {sp : Sp} {n : Nat} {gV : List V → List V → List V} {t : TA} {σ : L2.St} {Q : VK} (h : GauAt K C CR CM CG H v D rs x y p q) (hn : (gaF .non .non .non .non .non).lookup m = none) (k : t σ H (KnR n sp gV [v] Q)) : MkR CG m n sp gV t σ Q v H := by
  obtain ⟨a, dx, mm, t', kk, s', b1, b2, kvs, rfl, ea, _⟩ := h.ex
  exact go_mkr ea (ga_lk hn) k
theorem gau_over {H H' : Hp} {g : V} {G D : Addr} {rs : List (List Pm.Cut)} {x y p q : Rat} {zs : List V} {o : HO} (h0 : GauAt K C CR CM CG H g G rs x y p q) (h : GauAt K C CR CM CG H' g G rs x y p q) (b : Bd G H H') (e : H' D = some (.lst zs)) (n : H D = none) : GauAt K C CR CM CG (upd H' D o) g G rs x y p q := by
  have b' : Bd G H (upd H' D o) := ⟨b.1, fun c u nc ec => by rw [upd_ne (ne_of_none ec n)]; exact b.2 c u nc ec⟩
  obtain ⟨a, dx, m, t, k, sd, b1, b2, kvs, rfl, ea, hm, ht, h1, h2, eD, ko, hv⟩ := h0.ex
  obtain ⟨a', dx', m', t', k', sd', b1', b2', kvs', e', _, _, _, _, _, eD', ko', hv'⟩ := h.ex
  refine ⟨a, dx, m, t, k, sd, b1, b2, kvs', rfl, bd_geti b' ea, bd_map b' hm, bd_gett b' ht, bd_rat b' h1, bd_rat b' h2, ?_, ko', fun f z hz => ?_⟩
  · rw [upd_ne (fun z => by rw [z, e] at eD'; cases eD')]
    exact eD'
  · exact rat_lst e (hv' f z hz)
/-- a comprehension of tests that all hold, while a dict changes -/
theorem lcBd {σ : L2.St} {H : Hp} {Q : VK} {te : TE} {vs : List Nat} {a : Addr} {j : Nat} {G : Addr} {xs : List V} (I : Hp → Prop) (ha : ∀ H', Bd G H H' → SqL K H' a xs) (hz : xs.length ≤ 100000) (hG : ∃ kvs, H G = some (.dK kvs)) (h0 : I H) (hup : ∀ H1 H2, Same H1 H2 → I H1 → I H2)
    (hu : ∀ H1 D zs o, H D = none → H1 D = some (.lst zs) → Bd G H H1 → I H1 → I (upd H1 D o)) (hw : ∀ x, wipe ((wipe σ vs).set j (some x)) vs = wipe σ vs)
    (hs : ∀ (i : Nat) x H1 (Q' : VK), xs[i]? = some x → Bd G H H1 → I H1 → (∀ H4, Bd G H1 H4 → I H4 → Q' (.bl true) H4) → te ((wipe σ vs).set j (some x)) H1 Q')
    (hd : ∀ D H', H D = none → Bd G H H' → I H' → H' D = some (.lst ((List.replicate xs.length true).map V.bl)) → Q (.ref D) H') : LcR (gName j) tYes te vs σ Q (Itl K a) H := by
  intro D hD
  refine lc_it walk_list (fun i H' => Bd G H H' ∧ I H' ∧ H' D = some (.lst ((List.replicate i true).map V.bl))) ⟨⟨hG, Bu.of (same_new hD) G⟩, hup _ _ (same_new hD) h0, upd_same⟩ (fun i H' _ h => ha H' h.1) ?_ ?_
  · rintro i x H1 H2 hi ⟨b1, i1, e1⟩ ⟨rfl, hx⟩
    refine ⟨hw _, hs i x _ _ hx b1 i1 fun H4 b4 i4 => ?_⟩
    have e4 := bd_getl b4 e1
    have b14 : Bd G H H4 := bd_bd b4 b1
    refine ⟨_, e4, by rw [List.length_map, List.length_replicate]; unfold sizeLine; omega, ⟨hG, fun c u nc ec => ?_⟩, hu _ _ _ _ hD e4 b14 i4, ?_⟩
    · rw [upd_ne (ne_of_none ec hD)]
      exact b14.2 c u nc ec
    · rw [upd_same, List.replicate_succ', List.map_append]
      rfl
  · rintro H1 ⟨b1, i1, e1⟩
    exact hd D H1 hD b1 i1 e1
def sp_lcounts (K : PySem.W.Frag) : Sp := fun vs H Q _ => ∃ (v : V) (rs : List (List Pm.Cut)) (n : Nat), vs = [v, .int n] ∧ Dp K H v (pRds rs) ∧ Pm.RdsOk rs ∧ n ≤ 1000 ∧ ∀ l H', H l = none → Same H H' → H' l = some (.lst [.int (Pm.cnt rs 0 n : Nat), .int (Pm.cnt rs 1 n : Nat)]) → Q (.ref l) H'
theorem c_lcounts {K : PySem.W.Frag} {v : V} {rs : List (List Pm.Cut)} {n : Nat} {H : Hp} {Q : VK} {E : XK} (h0 : Dp K H v (pRds rs)) (h1 : Pm.RdsOk rs) (h2 : n ≤ 1000) (q : ∀ l H', H l = none → Same H H' → H' l = some (.lst [.int (Pm.cnt rs 0 n : Nat), .int (Pm.cnt rs 1 n : Nat)]) → Q (.ref l) H') : sp_lcounts K [v, .int n] H Q E := ⟨_, _, _, rfl, h0, h1, h2, q⟩
def sp_lless (K : PySem.W.Frag) : Sp := fun vs H Q _ => ∃ (u v : V) (a b c d : Nat), vs = [u, v] ∧ Dp K H u (pPr a b) ∧ Dp K H v (pPr c d) ∧ a < 2 ^ 4400 ∧ b < 2 ^ 4400 ∧ c < 2 ^ 4400 ∧ d < 2 ^ 4400 ∧ Q (.bl (decide (a * d < c * b))) H
theorem c_lless {K : PySem.W.Frag} {u v : V} {a b c d : Nat} {H : Hp} {Q : VK} {E : XK} (h0 : Dp K H u (pPr a b)) (h1 : Dp K H v (pPr c d)) (h2 : a < 2 ^ 4400) (h3 : b < 2 ^ 4400) (h4 : c < 2 ^ 4400) (h5 : d < 2 ^ 4400) (q : Q (.bl (decide (a * d < c * b))) H) : sp_lless K [u, v] H Q E := ⟨_, _, _, _, _, _, rfl, h0, h1, h2, h3, h4, h5, q⟩
def sp_ltopat (K : PySem.W.Frag) : Sp := fun vs H Q _ => ∃ (u v : V) (m : Md) (f : Nat), vs = [u, v] ∧ MdAt K H u m ∧ Dp K H v (.list [.int (Pm.cnt m.rs 0 f : Nat), .int (Pm.cnt m.rs 1 f : Nat)]) ∧ f ≤ 150 ∧
  ∀ t H', Same H H' → Dp K H' t (pPr (m.top (Pm.cnt m.rs 0 f) (Pm.cnt m.rs 1 f)).1 (m.top (Pm.cnt m.rs 0 f) (Pm.cnt m.rs 1 f)).2) → Q t H'
theorem c_ltopat {K : PySem.W.Frag} {u v : V} {m : Md} {f : Nat} {H : Hp} {Q : VK} {E : XK} (h0 : MdAt K H u m) (h1 : Dp K H v (.list [.int (Pm.cnt m.rs 0 f : Nat), .int (Pm.cnt m.rs 1 f : Nat)])) (h2 : f ≤ 150) (q : ∀ t H', Same H H' → Dp K H' t (pPr (m.top (Pm.cnt m.rs 0 f) (Pm.cnt m.rs 1 f)).1 (m.top (Pm.cnt m.rs 0 f) (Pm.cnt m.rs 1 f)).2) → Q t H') : sp_ltopat K [u, v] H Q E := ⟨_, _, _, _, rfl, h0, h1, h2, q⟩
def sp_ltop (K : PySem.W.Frag) : Sp := fun vs H Q _ => ∃ (u : V) (m : Md) (f : Nat), vs = [u, .int f] ∧ MdAt K H u m ∧ f ≤ 150 ∧
  ∀ t H', Same H H' → Dp K H' t (pPr (m.top (Pm.cnt m.rs 0 f) (Pm.cnt m.rs 1 f)).1 (m.top (Pm.cnt m.rs 0 f) (Pm.cnt m.rs 1 f)).2) → Q t H'
theorem c_ltop {K : PySem.W.Frag} {u : V} {m : Md} {f : Nat} {H : Hp} {Q : VK} {E : XK} (h0 : MdAt K H u m) (h1 : f ≤ 150) (q : ∀ t H', Same H H' → Dp K H' t (pPr (m.top (Pm.cnt m.rs 0 f) (Pm.cnt m.rs 1 f)).1 (m.top (Pm.cnt m.rs 0 f) (Pm.cnt m.rs 1 f)).2) → Q t H') : sp_ltop K [u, .int f] H Q E := ⟨_, _, _, rfl, h0, h1, q⟩
def sp_ltold (K : PySem.W.Frag) (CR : Addr) : Sp := fun vs H Q _ => ∃ (u v : V) (q : Rat) (a b : Nat), vs = [u, v] ∧ RatAt CR H u q ∧ Dp K H v (pPr a b) ∧ 0 < b ∧ b < 2 ^ 4400 ∧ ∀ H', Same H H' → Q (.bl (decide (q = Rat.divInt a b))) H'
theorem c_ltold {K : PySem.W.Frag} {CR : Addr} {u v : V} {q : Rat} {a b : Nat} {H : Hp} {Q : VK} {E : XK} (h0 : RatAt CR H u q) (h1 : Dp K H v (pPr a b)) (h2 : 0 < b) (h3 : b < 2 ^ 4400) (q : ∀ H', Same H H' → Q (.bl (decide (q = Rat.divInt a b))) H') : sp_ltold K CR [u, v] H Q E := ⟨_, _, _, _, _, rfl, h0, h1, h2, h3, q⟩
local macro_rules | `(tactic| tb_rel) => `(tactic| repeat (first
  | with_reducible assumption
  | with_reducible exact Dp.int _
  | with_reducible exact Dp.str _
  | with_reducible exact Dp.bl _
  | with_reducible exact Dp.non
  | (with_reducible apply SqT.of; with_reducible assumption)
  | (with_reducible apply SqL.of; with_reducible assumption)
  | (with_reducible apply up_dp; with_reducible assumption)
  | (with_reducible apply up_sqt; with_reducible assumption)
  | (with_reducible apply up_sql; with_reducible assumption)
  | (with_reducible apply up_get; with_reducible assumption)
  | (with_reducible apply up_pot; with_reducible assumption)
  | with_reducible exact Same.refl _
  | with_reducible exact Bu.refl _ _
  | (with_reducible apply up_same; with_reducible assumption)
  | (with_reducible apply up_bu; with_reducible assumption)
  | (with_reducible apply bu_bu; with_reducible assumption)
  | (with_reducible apply free_of; with_reducible assumption)
  | (with_reducible apply mi_fr; with_reducible assumption; (focus (tb_rel; done)))
  | (with_reducible apply mi_dp; with_reducible assumption)
  | (with_reducible apply mi_sqt; with_reducible assumption)
  | (with_reducible apply mi_sql; with_reducible assumption)
  | (with_reducible apply mi_gett; with_reducible assumption)
  | (with_reducible apply mi_getl; with_reducible assumption)
  | (with_reducible apply mi_pot; with_reducible assumption)
  | (with_reducible apply mi_refl; with_reducible assumption; (focus (with_unfolding_all exact rfl)))
  | (with_reducible apply up_mi; with_reducible assumption)
  | (with_reducible apply mi_mi; with_reducible assumption)
  | (with_reducible apply mi_bu; with_reducible assumption)
  | with_reducible exact num_int _
  | (with_reducible apply rat_of; with_reducible assumption)
  | (with_reducible apply num_rat; (focus (tb_rel; done)))
  | (with_reducible apply up_plan; with_reducible assumption)
  | (with_reducible apply bu_plan; with_reducible assumption; (focus (tb_rel; done)))
  | (with_reducible apply mi_plan; with_reducible assumption; (focus (lcg_src; done)))
  | (with_reducible apply up_rat; with_reducible assumption)
  | (with_reducible apply up_num; with_reducible assumption)
  | (with_reducible apply mi_rat; with_reducible assumption; (focus (lcg_src; done)))
  | (with_reducible apply mi_num; with_reducible assumption; (focus (lcg_src; done)))
  | (with_reducible apply bu_rat; with_reducible assumption; (focus (tb_rel; done)))
  | (with_reducible apply bu_num; with_reducible assumption; (focus (tb_rel; done)))
  | (with_reducible apply up_map; with_reducible assumption)
  | (with_reducible apply up_bd; with_reducible assumption)
  | (with_reducible apply bd_bd; with_reducible assumption)
  | (with_reducible apply bd_same; with_reducible assumption; (focus (tb_rel; done)))
  | (with_reducible apply bd_bup; with_reducible assumption; (focus (tb_rel; done)))
  | (with_reducible apply bu_getd; with_reducible assumption; (focus (tb_rel; done)))
  | (with_reducible apply bd_dp; with_reducible assumption)
  | (with_reducible apply bd_sqt; with_reducible assumption)
  | (with_reducible apply bd_sql; with_reducible assumption)
  | (with_reducible apply bd_gett; with_reducible assumption)
  | (with_reducible apply bd_getl; with_reducible assumption)
  | (with_reducible apply bd_geti; with_reducible assumption)
  | (with_reducible apply bd_pot; with_reducible assumption)
  | (with_reducible apply pf_dp; with_reducible assumption; (focus (tb_rel; done)); (focus (lcg_src; done)))
  | (with_reducible apply up_mdl; with_reducible assumption)
  | (with_reducible apply bu_mdl; with_reducible assumption; (focus (tb_rel; done)))
  | (with_reducible apply bd_mdl; with_reducible assumption; (focus (tb_rel; done)))
  | (with_reducible apply up_gau; with_reducible assumption)
  | (with_reducible apply bu_gau; with_reducible assumption; (focus (tb_rel; done)))
  | (with_reducible apply bu_map; with_reducible assumption; (focus (tb_rel; done)))
  | (with_reducible apply bu_gett; with_reducible assumption; (focus (tb_rel; done)))
  | (with_reducible apply bu_geti; with_reducible assumption; (focus (tb_rel; done)))
  | (with_reducible apply bu_get; with_reducible assumption; (focus (tlg_ne; done)))
  | (with_reducible apply bu_sqt; with_reducible assumption; (focus (tb_rel; done)))
  | (with_reducible apply bu_sql; with_reducible assumption; (focus (tlg_ne; done)))
  | (with_reducible apply bu_dp; with_reducible assumption; (focus (tb_rel; done)); (focus (lcg_src; done)))
  | fail "up"))
local macro_rules | `(tactic| tlg_ne) => `(tactic| first
  | with_reducible assumption
  | (with_reducible apply pot_ne; with_reducible assumption; (focus (tb_rel; done)))
  | fail "ne")
local macro_rules | `(tactic| lcg_src) => `(tactic| first
  | with_reducible assumption
  | with_unfolding_all exact rfl
  | with_unfolding_all decide
  | with_unfolding_all exact Nat.ne_of_beq_eq_false rfl
  | (apply_assumption; done)
  | omega
  | (simp; done)
  | (simp; omega)
  | fail "sd")
local macro_rules | `(tactic| lcg_sub) => `(tactic| first
  | (unfold sizeLine; omega)
  | (simp only [List.length_cons, List.length_nil, List.length_append, List.length_map, List.length_replicate, List.length_take, List.length_drop]; unfold sizeLine; omega)
  | (simp; unfold sizeLine; omega)
  | fail "sz")
local macro_rules | `(tactic| nest_cls) => `(tactic| first
  | (tb_rel; done)
  | (with_reducible apply nmI; (focus (tb_rel; done)))
  | (with_reducible apply d_tup; (focus (tb_rel; done)); (focus (lsm_bools; done)))
  | (with_reducible apply d_lst; (focus (tb_rel; done)); (focus (lsm_bools; done)))
  | fail "dp")
local macro_rules | `(tactic| lsm_bools) => `(tactic| repeat (first
  | with_reducible exact DpAll.nil
  | with_reducible assumption
  | (with_reducible apply DpAll.cons; (focus (nest_cls; done)))
  | fail "dpa"))
local macro_rules | `(tactic| none_booked) => `(tactic| first | with_unfolding_all exact rfl | (with_reducible apply atI_nat; with_reducible assumption) | fail "ix")
local macro_rules | `(tactic| walk_at "go") => `(tactic| repeat (first
  | (focus (with_reducible refine go_var (v := ?_) ?_ ?_; rotate_left; (focus (with_unfolding_all exact rfl))))
  | with_reducible refine go_seq ?_
  | with_reducible refine go_cN ?_
  | with_reducible refine go_c ?_
  | with_reducible refine go_op ?_
  | with_reducible refine go_nil ?_
  | with_reducible refine go_cons ?_
  | with_reducible refine go_cb ?_
  | with_reducible refine go_call0 ?_
  | with_reducible refine go_asg ?_
  | (focus (with_reducible refine go_gname (σ' := ?_) ?_ ?_; rotate_left; (focus (simp only [List.set_cons_succ, List.set_cons_zero]; exact rfl))))
  | with_reducible refine go_par ?_
  | (with_reducible apply go_mulWN; (focus (with_reducible assumption; done)))
  | with_reducible refine go_par3 ?_
  | (focus (with_reducible refine go_par3k (σ' := ?_) ?_ ?_; rotate_left; (focus (simp only [List.set_cons_succ, List.set_cons_zero]; exact rfl))))
  | with_reducible refine go_bm ?_
  | (with_reducible apply go_bmL; (focus (tb_rel; done)))
  | (with_reducible apply go_fdX; (focus (with_reducible assumption; done)))
  | (with_reducible apply go_rI; (focus (with_reducible assumption; done)))
  | (focus (with_reducible refine go_par2 (σ' := ?_) ?_ ?_; rotate_left; (focus (simp only [List.set_cons_succ, List.set_cons_zero]; exact rfl))))
  | with_reducible refine go_ifs ?_
  | with_reducible refine go_test ?_
  | with_reducible refine go_tb ?_
  | with_reducible refine go_asb ?_
  | with_reducible refine go_asi ?_
  | with_reducible refine go_ret ?_
  | with_reducible refine go_retn ?_
  | with_reducible refine go_drop ?_
  | with_reducible refine go_next ?_
  | with_reducible refine go_and ?_
  | with_reducible refine go_or ?_
  | with_reducible refine go_not ?_
  | with_reducible refine go_andv ?_
  | with_reducible refine go_orv ?_
  | with_reducible refine go_notv ?_
  | with_reducible refine go_ife ?_
  | with_reducible refine go_chain ?_
  | with_reducible refine go_if1 ?_
  | with_reducible refine go_if0 ?_
  | with_reducible refine go_ifn1 ?_
  | with_reducible refine go_ifn0 ?_
  | (with_reducible apply go_ift; (focus (first | with_reducible rfl | with_reducible assumption | omega)))
  | (with_reducible apply go_ifnt; (focus (first | with_reducible rfl | with_reducible assumption | omega)))
  | (with_reducible apply go_iff; (focus (first | with_reducible assumption | omega)))
  | (with_reducible apply go_ifnf; (focus (first | with_reducible assumption | omega)))
  | with_reducible refine go_un ?_
  | with_reducible refine go_tup ?_
  | with_reducible refine go_lst ?_
  | (with_reducible apply go_newt; (focus (lcg_sub; done)); intros)
  | (with_reducible apply go_newl; (focus (lcg_sub; done)); intros)
  | with_reducible refine go_meth ?_
  | with_reducible refine go_for ?_
  | with_reducible refine go_lc ?_
  | with_reducible refine go_irng1 ?_
  | with_reducible refine go_irng2 ?_
  | with_reducible refine go_ilist ?_
  | with_reducible refine go_itup ?_
  | with_reducible refine go_izip ?_
  | with_reducible refine go_ienum ?_
  | (with_reducible apply go_rg1; (focus (lcg_src; done)))
  | (with_reducible apply go_rg2; (focus (lcg_src; done)); (focus (lcg_src; done)))
  | (with_reducible apply go_lsr; (focus (tb_rel; done)))
  | (with_reducible apply go_tpr; (focus (tb_rel; done)))
  | (with_reducible apply go_zpr; (focus (tb_rel; done)); (focus (tb_rel; done)))
  | (with_reducible apply go_zprT; (focus (tb_rel; done)); (focus (tb_rel; done)))
  | (with_reducible apply go_enrL; (focus (tb_rel; done)))
  | (with_reducible apply go_enrT; (focus (tb_rel; done)))
  | with_reducible refine go_prop ?_
  | with_reducible refine go_knr0 ?_
  | (with_reducible apply go_knr; (focus (with_unfolding_all exact rfl; done)); (focus (simp only [kSw2, kRev3, kId, List.nil_append, List.cons_append]; exact rfl)))
  | with_reducible refine go_mkn ?_
  | (with_reducible apply go_mkr; (focus (tb_rel; done)); (focus (with_unfolding_all exact rfl; done)))
  | with_reducible refine go_fld ?_
  | (with_reducible apply go_flr; (focus (tb_rel; done)); (focus (with_reducible assumption; done)); (focus (with_reducible assumption; done)); (focus (with_unfolding_all exact rfl; done)))
  | (with_reducible apply go_prr; (focus (tb_rel; done)))
  | (with_reducible apply go_mer; (focus (tb_rel; done)); (focus (with_unfolding_all exact rfl; done)))
  | with_reducible refine go_sfld ?_
  | (with_reducible apply go_sfr; (focus (tb_rel; done)); (focus (with_reducible assumption; done)); (focus (with_reducible assumption; done)); (focus (with_unfolding_all exact Nat.le_of_ble_eq_true rfl; done)); (focus (with_unfolding_all exact rfl; done)); intros)
  | with_reducible refine go_revt ?_
  | with_reducible refine go_make0 ?_
  | (focus (with_reducible refine go_aug (x := ?_) ?_ ?_; rotate_left; (focus (with_unfolding_all exact rfl))))
  | (focus (with_reducible refine go_augk (σ' := ?_) ?_ ?_; rotate_left; (focus (simp only [List.set_cons_succ, List.set_cons_zero]; exact rfl))))
  | with_reducible refine go_min2 ?_
  | with_reducible refine go_int1 ?_
  | with_reducible refine go_max2 ?_
  | with_reducible refine go_intB ?_
  | with_reducible refine go_absN ?_
  | with_reducible refine go_isN ?_
  | with_reducible refine go_notN ?_
  | (with_reducible apply go_rvt; (focus (tb_rel; done)); (focus (simp only [List.reverse_cons, List.reverse_nil, List.nil_append, List.cons_append]; exact rfl)); intros)
  | (with_reducible apply go_reprNm; (focus (tb_rel; done)); (focus (with_reducible assumption; done)))
  | (with_reducible apply go_reprPr; (focus (nest_cls; done)); (focus (lcg_src; done)); (focus (lcg_src; done)))
  | with_reducible refine go_sl ?_
  | with_reducible refine go_part ?_
  | with_reducible refine go_nopart ?_
  | (with_reducible apply go_gtup; (focus (tb_rel; done)); (focus (with_unfolding_all exact rfl; done)))
  | (with_reducible apply go_gunl; (focus (tb_rel; done)); (focus (with_unfolding_all exact rfl; done)))
  | with_reducible refine go_gcons ?_
  | with_reducible refine go_gnil ?_
  | with_reducible refine go_addN ?_
  | with_reducible refine go_ltN ?_
  | with_reducible refine go_leN ?_
  | with_reducible refine go_gtN ?_
  | with_reducible refine go_geN ?_
  | (with_reducible apply go_subN; (focus (omega; done)))
  | with_reducible refine go_rI0 ?_
  | (with_reducible apply go_mulN; (focus (omega; done)))
  | (with_reducible apply go_modN; (focus (omega; done)))
  | (with_reducible apply go_divN; (focus (omega; done)))
  | (with_reducible apply go_powN; (focus (with_unfolding_all decide; done)))
  | with_reducible refine go_rU ?_
  | with_reducible refine go_eqN ?_
  | with_reducible refine go_neN ?_
  | with_reducible refine go_isB ?_
  | with_reducible refine go_notB ?_
  | with_reducible refine go_eqS ?_
  | with_reducible refine go_neS ?_
  | with_reducible refine go_eqB ?_
  | with_reducible refine go_eqI ?_
  | with_reducible refine go_neI ?_
  | (with_reducible apply go_ixt; (focus (tb_rel; done)); (focus (none_booked; done)))
  | (with_reducible apply go_ixl; (focus (tb_rel; done)); (focus (none_booked; done)))
  | (with_reducible apply go_lent; (focus (tb_rel; done)))
  | (with_reducible apply go_lenNm; (focus (tb_rel; done)))
  | (with_reducible apply go_isiNm; (focus (tb_rel; done)))
  | (with_reducible apply go_lenl; (focus (tb_rel; done)))
  | (with_reducible apply go_catA; (focus (tb_rel; done)); (focus (tb_rel; done)); (focus (lcg_sub; done)); intros)
  | (with_reducible apply go_slaT; (focus (tb_rel; done)); intros)
  | (with_reducible apply go_slaD; (focus (tb_rel; done)); intros)
  | (with_reducible apply go_rep; (focus (tb_rel; done)); (focus (lcg_src; done)); intros)
  | (with_reducible apply go_tupofl; (focus (tb_rel; done)); intros)
  | (with_reducible apply go_sllT; (focus (tb_rel; done)); intros)
  | (with_reducible apply go_sllD; (focus (tb_rel; done)); intros)
  | (with_reducible apply go_cat; (focus (tb_rel; done)); (focus (tb_rel; done)); (focus (lcg_sub; done)); intros)
  | (with_reducible apply go_eqP; with_reducible assumption; (focus (tb_rel; done)); (focus (tb_rel; done)))
  | (with_reducible apply go_neP; with_reducible assumption; (focus (tb_rel; done)); (focus (tb_rel; done)))
  | (with_reducible apply go_mkrat; with_reducible assumption; with_reducible assumption; intros)
  | (with_reducible apply go_mkrat1; intros)
  | (with_reducible apply go_merR; (focus (tb_rel; done)); (focus decide); (focus decide))
  | (with_reducible apply go_prR; (focus (tb_rel; done)))
  | (with_reducible apply go_mep; (focus (tb_rel; done)); (focus decide); (focus decide); (focus decide))
  | (with_reducible apply c_lcounts; (focus (nest_cls; done)); (focus (lcg_src; done)); (focus (lcg_src; done)); intros)
  | (with_reducible apply c_lless; (focus (nest_cls; done)); (focus (nest_cls; done)); (focus (lcg_src; done)); (focus (lcg_src; done)); (focus (lcg_src; done)); (focus (lcg_src; done)); intros)
  | (with_reducible apply c_ltold; (focus (tb_rel; done)); (focus (nest_cls; done)); (focus (lcg_src; done)); (focus (lcg_src; done)); intros)
  | (with_reducible apply c_ltop; (focus (tb_rel; done)); (focus (lcg_src; done)); intros)
  | (with_reducible apply c_ltopat; (focus (tb_rel; done)); (focus (nest_cls; done)); (focus (lcg_src; done)); intros)
  | (with_reducible apply c_req; (focus (tb_rel; done)); (focus (tb_rel; done)); intros)
  | (with_reducible apply c_rinit; (focus (tb_rel; done)); (focus (lcg_src; done)); (focus (lcg_src; done)); intros)
  | (with_reducible apply c_rmul; (focus (tb_rel; done)); (focus (tb_rel; done)); (focus (lcg_src; done)); (focus (lcg_src; done)); intros)
  | (with_reducible apply go_eqR; with_reducible assumption; (focus (tb_rel; done)); (focus (tb_rel; done)))
  | (with_reducible apply go_neR; with_reducible assumption; (focus (tb_rel; done)); (focus (tb_rel; done)))
  | (with_reducible apply go_isiR; with_reducible assumption; (focus (tb_rel; done)))
  | (with_reducible apply go_mulR; (focus (tb_rel; done)); (focus (lcg_src; done)); (focus (lcg_src; done)); intros)
  | with_reducible refine go_dget ?_
  | with_reducible refine go_dgr2 ?_
  | with_reducible refine go_dput ?_
  | with_reducible refine go_dpr2 ?_
  | with_reducible refine go_dpt ?_
  | with_reducible refine go_pnil ?_
  | with_reducible refine go_pcons ?_
  | with_reducible refine go_gsub ?_
  | with_reducible refine go_sir ?_
  | with_reducible refine go_lrg ?_
  | with_reducible refine go_rgt2 ?_
  | with_reducible refine go_rge ?_
  | with_reducible refine go_revl ?_
  | (with_reducible apply go_dgk; (focus (tb_rel; done)); with_reducible assumption)
  | (with_reducible apply go_dpk; (focus (tb_rel; done)); (focus (lcg_sub; done)); intros)
  | (with_reducible apply go_disp; intros)
  | (with_reducible apply go_dsk2; (focus (tb_rel; done)); intros)
  | (with_reducible apply go_lrr; (focus (omega; done)); (focus (omega; done)); intros)
  | (with_reducible apply go_rvl; (focus (tb_rel; done)); intros)
  | (with_reducible apply go_lenRds; (focus (tb_rel; done)))
  | (with_reducible apply go_dgR; (focus (tb_rel; done)); intros)
  | (with_reducible apply go_meG; (focus (tb_rel; done)); (focus (with_unfolding_all exact rfl)))
  | (with_reducible apply go_mkG; (focus (tb_rel; done)); (focus (with_unfolding_all exact rfl)))
  | fail "go"))
theorem ok_lcounts {f : Addr} {fd : FuncData} (F : Df K "_law_counts" "_law_counts" s_lcounts [] f fd) (B : Blt mg) : FnOk P w K mg base CX0 1 f fd ["_law_rounds_here", "_law_many"] (sp_lcounts K) := by
  refine dfOk F sc_lcounts (fun vs H Q E h => ?_) (fun cdv A outer s H vs Q E hr h => ?_)
  · obtain ⟨v, rs, n, rfl, _⟩ := h
    rfl
  · obtain ⟨v, rs, n, rfl, hd, ok, hn, q⟩ := h
    obtain ⟨a, ys, rfl, hs, ha⟩ := hd.lstE
    have hyl : ys.length = rs.length := by rw [ha.len, List.length_map]
    have l1 := ok.1
    refine ⟨_, (pss_cons (ps_set (i := 2) sc_lcounts.nd rfl (Or.inl rfl) (pe_lst (pa_cons pe_int (pa_cons pe_int pa_nil))))
  (pss_cons (ps_for PassesOwn.never rfl (pi_range1 (by rfl) B.range (pa_cons (pv 1) pa_nil)) (pg_name (i := 3) sc_lcounts.nd rfl (Or.inl rfl))
  (pss_one (ps_for PassesOwn.never rfl (pi_list' (pe_ix ix_list' (pv 0) (pe_op op_mod (pv 3) (pe_callB call_len_seq' (by rfl) B.len bt_len (pa_cons (pv 0) pa_nil))) (fun _ _ => rfl))) (pg_tup' 2 (pgs_cons (pg_name (i := 4) sc_lcounts.nd rfl (Or.inl rfl)) (pgs_cons (pg_name (i := 5) sc_lcounts.nd rfl (Or.inl rfl)) pgs_nil)))
  (pss_one (ps_asg (pe_op op_mul (pe_ix ix_list' (pv 2) (pe_callTy call_int1' (by rfl) B.int bt_int (pa_cons (pe_cmpR op_eq (pv 4) pe_str (nomark _)) pa_nil)) (fun _ _ => rfl)) (pv 5)) (pg_sub (pv 2) (pe_callTy call_int1' (by rfl) B.int bt_int (pa_cons (pe_cmpR op_eq (pv 4) pe_str (nomark _)) pa_nil)) set_list))))))
  (pss_one (ps_ret (pv 2))))), ?_⟩
    refine go_start (σ := [some _, some _, none, none, none, none]) rfl ?_
    walk_at "go"
    rename_i L H1 nL z1 eL
    refine forRange (fun i σ H' => ∃ v3 v4 v5, σ = [some (.ref a), some (.int (n : Int)), some (.ref L), v3, v4, v5] ∧ Same H H' ∧ H' L = some (.lst [.int (Pm.cnt rs 0 i : Nat), .int (Pm.cnt rs 1 i : Nat)])) ⟨_, _, _, rfl, z1, eL⟩ ?_ ?_
    · rintro i σ H2 hi ⟨v3, v4, v5, rfl, z2, e2⟩
      walk_at "go"
      rw [hyl]
      obtain ⟨x, hx, hdx⟩ := ha.got (i := i % rs.length) (by rw [List.getElem?_map, Pm.rnd_get l1 i]; rfl)
      refine go_ixl (z2.seq hs) (atI_nat hx) ?_
      obtain ⟨b, zs, rfl, hzs, hza⟩ := hdx.lstE
      have okr := ok.rnd i
      have hzl : zs.length = (Pm.rnd rs i).length := by rw [hza.len, List.length_map]
      walk_at "go"
      refine forList (xs := zs) (fun j σ H' => ∃ v4 v5, σ = [some (.ref a), some (.int (n : Int)), some (.ref L), some (.int (i : Int)), v4, v5] ∧ Same H H' ∧ H' L = some (.lst [.int ((Pm.cnt rs 0 i * Pm.wid ((Pm.rnd rs i).take j) 0 : Nat) : Int), .int ((Pm.cnt rs 1 i * Pm.wid ((Pm.rnd rs i).take j) 1 : Nat) : Int)])) ⟨_, _, rfl, z2, by simpa [Pm.wid] using e2⟩ (fun j σ H' h => by obtain ⟨_, _, _, h, _⟩ := h; exact h.seq hzs) ?_ ?_
      · rintro j x σ H3 hj hx ⟨v4, v5, rfl, z3, e3⟩
        obtain ⟨d, hd1, hd2⟩ := (hza.up z3).get hx
        rw [List.getElem?_map] at hd1
        obtain ⟨c, hc1, rfl⟩ := Option.map_eq_some_iff.mp hd1
        have hc := okr.2.2.1 c (List.mem_of_getElem? hc1)
        obtain ⟨t, rfl, ht⟩ := cut_at hd2
        have w0 := wid_take hc1 0
        have w1 := wid_take hc1 1
        obtain ⟨c1, c2⟩ := c
        have hp4 : c2 ≤ 4 := hc.2.2
        have hax : c1 < 2 := hc.1
        rcases (by omega : c1 = 0 ∨ c1 = 1) with rfl | rfl
        · have ht : SqT K H3 t [.str "east", .int (c2 : Int)] := ht
          rw [if_pos rfl] at w0
          rw [if_neg (show ¬ (0 : Nat) = 1 by decide), Nat.mul_one] at w1
          walk_at "go"
          refine go_setL (k := 0) e3 (by show 0 < 2; decide) ?_
          refine ⟨_, _, rfl, same_over z3 nL, ?_⟩
          rw [w0, w1, ← Nat.mul_assoc]
          exact upd_same
        · have ht : SqT K H3 t [.str "north", .int (c2 : Int)] := ht
          rw [if_pos rfl] at w1
          rw [if_neg (show ¬ (1 : Nat) = 0 by decide), Nat.mul_one] at w0
          walk_at "go"
          refine go_setL (k := 1) e3 (by show 1 < 2; decide) ?_
          refine ⟨_, _, rfl, same_over z3 nL, ?_⟩
          rw [w0, w1, ← Nat.mul_assoc]
          exact upd_same
      · rintro σ H3 ⟨v4, v5, rfl, z3, e3⟩
        rw [hzl, List.take_length] at e3
        exact ⟨_, _, _, rfl, z3, e3⟩
    · rintro σ H2 ⟨v3, v4, v5, rfl, z2, e2⟩
      walk_at "go"
      exact q _ _ nL z2 e2
theorem ok_lless {f : Addr} {fd : FuncData} (F : Df K "_law_is_less" "_law_is_less" s_lless [] f fd) : FnOk P w K mg base CX0 1 f fd ["_law_one", "_law_other"] (sp_lless K) := by
  refine dfOk F sc_lless (fun vs H Q E h => ?_) (fun cdv A outer s H vs Q E hr h => ?_)
  · obtain ⟨u, v, a, b, c, d, rfl, _⟩ := h
    rfl
  · obtain ⟨u, v, a, b, c, d, rfl, h1, h2, la, lb, lc, ld, q⟩ := h
    obtain ⟨t1, rfl, e1⟩ := pair_at h1
    obtain ⟨t2, rfl, e2⟩ := pair_at h2
    have m1 : CMulW (a : Int) (d : Int) := SzQ.cmul (by rw [Int.natAbs_natCast]; exact la) (by rw [Int.natAbs_natCast]; exact ld)
    have m2 : CMulW (c : Int) (b : Int) := SzQ.cmul (by rw [Int.natAbs_natCast]; exact lc) (by rw [Int.natAbs_natCast]; exact lb)
    refine ⟨_, (pss_one (ps_ret (pe_cmpR op_lt (pe_op op_mulW (pe_ix ix_tup' (pv 0) pe_int (fun _ _ => rfl)) (pe_ix ix_tup' (pv 1) pe_int (fun _ _ => rfl))) (pe_op op_mulW (pe_ix ix_tup' (pv 1) pe_int (fun _ _ => rfl)) (pe_ix ix_tup' (pv 0) pe_int (fun _ _ => rfl))) (nomark _)))), ?_⟩
    refine go_start (σ := [some _, some _]) rfl ?_
    walk_at "go"
    exact q
theorem ok_ltopat {f : Addr} {fd : FuncData} (F : Df K "_law_top_at" "_law_top_at" s_ltopat [] f fd) (B : Blt mg) (cIl2 : Ca P w K mg base 1 "_law_is_less" (sp_lless K) []) : FnOk P w K mg base CX0 2 f fd ["_law_model_here", "_law_counts_here"] (sp_ltopat K) := by
  refine dfOk F sc_ltopat (fun vs H Q E h => ?_) (fun cdv A outer s H vs Q E hr h => ?_)
  · obtain ⟨u, v, m, f, rfl, _⟩ := h
    rfl
  · obtain ⟨u, v, m, f, rfl, hm, hv, hf, q⟩ := h
    obtain ⟨D, kvs, R, L, Z, S, rfl, eD, h1, h2, h3, h4, h5, d1, d2, d3, d4⟩ := hm.ex
    have ok := hm.ok
    obtain ⟨l, t, u, rfl, hl, t1, t2⟩ := pr2_at d2
    obtain ⟨l', t', u', rfl, hl', t1', t2'⟩ := pr2_at d3
    have c0 := ok.cn (ax := 0) (by decide) hf
    have c1 := ok.cn (ax := 1) (by decide) hf
    have e12 := le12 (Nat.le_trans ok.e.2 ok.f)
    have g12 := le12 (Nat.le_trans ok.g.2 ok.h)
    have w1 : CMulW (m.a : Int) (m.e : Int) := cmulN ok.a.2 e12 (by decide) (by decide) (by decide)
    have w2 : CMulW (m.b : Int) (m.f : Int) := cmulN ok.b.2 (le12 ok.f) (by decide) (by decide) (by decide)
    have w3 : CMulW ((m.b * m.f : Nat) : Int) ((Pm.cnt m.rs 0 f : Nat) : Int) := cmulN (mul2 ok.b.2 (le12 ok.f) (Nat.le_refl _)) c0 (by decide) (by decide) (by decide)
    have w4 : CMulW (m.c : Int) (m.g : Int) := cmulN ok.c.2 g12 (by decide) (by decide) (by decide)
    have w5 : CMulW (m.d : Int) (m.h : Int) := cmulN ok.d.2 (le12 ok.h) (by decide) (by decide) (by decide)
    have w6 : CMulW ((m.d * m.h : Nat) : Int) ((Pm.cnt m.rs 1 f : Nat) : Int) := cmulN (mul2 ok.d.2 (le12 ok.h) (Nat.le_refl _)) c1 (by decide) (by decide) (by decide)
    obtain ⟨a1, rfl, at1⟩ := pair_at t1
    obtain ⟨a2, rfl, at2⟩ := pair_at t2
    obtain ⟨a3, rfl, at3⟩ := pair_at t1'
    obtain ⟨a4, rfl, at4⟩ := pair_at t2'
    obtain ⟨cl, cs, rfl, hcs, hca⟩ := hv.lstE
    obtain rfl : cs = [.int (Pm.cnt m.rs 0 f : Nat), .int (Pm.cnt m.rs 1 f : Nat)] := DpAll.intsE (is := [_, _]) hca
    refine ⟨_, (pss_cons (ps_set (i := 2) sc_ltopat.nd rfl (Or.inl rfl) (pe_lst pa_nil))
  (pss_cons (ps_for PassesOwn.never rfl (pi_enumA' (by rfl) B.enumerate (pa_cons (pe_dget (units1 hr) (pv 0) pe_str (fun _ _ => rfl)) pa_nil)) (pg_tup' 2 (pgs_cons (pg_name (i := 3) sc_ltopat.nd rfl (Or.inl rfl)) (pgs_cons (pg_name (i := 4) sc_ltopat.nd rfl (Or.inl rfl)) pgs_nil)))
  (pss_one (ps_expr (pe_bm' PySem.F.plainAttrs_list PySem.F.slot_list_append PySem.F.type_list_append mt_append (pv 2) (pa_cons (pe_tup (pa_cons (pe_op op_mulW (pe_ix ix_tup' (pv 4) pe_int (fun _ _ => rfl)) (pe_ix ix_tup' (pe_ix ix_list' (pe_dget (units1 hr) (pv 0) pe_str (fun _ _ => rfl)) (pv 3) (fun _ _ => rfl)) pe_int (fun _ _ => rfl))) (pa_cons (pe_op op_mulW (pe_op op_mulW (pe_ix ix_tup' (pv 4) pe_int (fun _ _ => rfl)) (pe_ix ix_tup' (pe_ix ix_list' (pe_dget (units1 hr) (pv 0) pe_str (fun _ _ => rfl)) (pv 3) (fun _ _ => rfl)) pe_int (fun _ _ => rfl))) (pe_ix ix_list' (pv 1) (pv 3) (fun _ _ => rfl))) pa_nil))) pa_nil)))))
  (pss_one (ps_ret (pe_ifExp (pt_val (pe_ca cIl2 hr (by decide) (by rfl) (pa_cons (pe_ix ix_list' (pv 2) pe_int (fun _ _ => rfl)) (pa_cons (pe_ix ix_list' (pv 2) pe_int (fun _ _ => rfl)) pa_nil)))) (pe_ix ix_list' (pv 2) pe_int (fun _ _ => rfl)) (pe_ix ix_list' (pv 2) pe_int (fun _ _ => rfl))))))), ?_⟩
    refine go_start (σ := [some _, some _, none, none, none]) rfl ?_
    walk_at "go"
    rename_i Fo H1 nF z1 eF
    refine forEnum (K := K) (bb := true) (xs := [.ref a1, .ref a2]) (fun i σ H' => ∃ v3 v4, σ = [some (.ref D), some (.ref cl), some (.ref Fo), v3, v4] ∧ Same H H' ∧ ∃ ts, H' Fo = some (.lst ts) ∧ ts.length = i ∧ (∀ t, ts[0]? = some t → Dp K H' t (pPr m.t0 (m.u0 (Pm.cnt m.rs 0 f)))) ∧ (∀ t, ts[1]? = some t → Dp K H' t (pPr m.t1 (m.u1 (Pm.cnt m.rs 1 f))))) ⟨_, _, rfl, z1, [], eF, rfl, fun t h => by simp at h, fun t h => by simp at h⟩ (fun i σ H' h => by obtain ⟨_, _, _, z, _⟩ := h; exact z.seq hl) ?_ ?_
    · rintro i x T σ H2 H3 hi hx ⟨v3, v4, rfl, z2, ts, eT, tl, td0, td1⟩ nT z3 e3
      have z03 : Same H H3 := z2.trans z3
      have hD3 := z03 _ _ eD
      have hl3 := z03.seq hl'
      have hc3 := z03.seq hcs
      have b1 := Same.tup z03 at1
      have b2 := Same.tup z03 at2
      have b3 := Same.tup z03 at3
      have b4 := Same.tup z03 at4
      have eT3 := z3 _ _ eT
      have z0 : Same H H3 := z2.trans z3
      have td0' := fun t h => (td0 t h).up z3
      have td1' := fun t h => (td1 t h).up z3
      clear td0 td1 eD hl' hcs at1 at2 at3 at4 z2 z3 z03 eT
      rcases (by have : i < 2 := hi; omega : i = 0 ∨ i = 1) with rfl | rfl
      · cases Option.some.inj hx
        walk_at "go"
        rename_i T1 H4 n4 z4 e4
        have eT4 := z4 _ _ eT3
        refine go_app eT4 (by rw [tl]; decide) ?_
        obtain rfl := List.eq_nil_of_length_eq_zero tl
        have bs : Bu Fo H4 (upd H4 Fo (.lst ([] ++ [V.ref T1]))) := Bu.set
        have d4 : Dp K H4 (.ref T1) (pPr m.t0 (m.u0 (Pm.cnt m.rs 0 f))) := .tup (SqT.of e4) (.cons (.int _) (.cons (.int _) .nil))
        refine ⟨_, _, rfl, same_over (z0.trans z4) nF, [.ref T1], upd_same, rfl, fun t h => ?_, fun t h => by simp at h⟩
        obtain rfl : V.ref T1 = t := by simpa using h
        exact d4.bu rfl bs eT4
      · cases Option.some.inj hx
        walk_at "go"
        rename_i T2 H4 n4 z4 e4
        have eT4 := z4 _ _ eT3
        refine go_app eT4 (by rw [tl]; decide) ?_
        obtain ⟨t0, rfl⟩ : ∃ t0, ts = [t0] := by
          match ts, tl with
          | [t0], _ => exact ⟨t0, rfl⟩
        have bs : Bu Fo H4 (upd H4 Fo (.lst ([t0] ++ [V.ref T2]))) := Bu.set
        have d4 : Dp K H4 (.ref T2) (pPr m.t1 (m.u1 (Pm.cnt m.rs 1 f))) := .tup (SqT.of e4) (.cons (.int _) (.cons (.int _) .nil))
        refine ⟨_, _, rfl, same_over (z0.trans z4) nF, [t0, .ref T2], upd_same, rfl, fun t h => ?_, fun t h => ?_⟩
        · obtain rfl : t0 = t := by simpa using h
          exact ((td0' _ rfl).up z4).bu rfl bs eT4
        · obtain rfl : V.ref T2 = t := by simpa using h
          exact d4.bu rfl bs eT4
    · rintro σ H2 ⟨v3, v4, rfl, z2, ts, eT, tl, td0, td1⟩
      obtain ⟨p0, p1, rfl⟩ : ∃ p0 p1, ts = [p0, p1] := by
        match ts, tl with
        | [p0, p1], _ => exact ⟨p0, p1, rfl⟩
      have g0 := td0 p0 rfl
      have g1 := td1 p1 rfl
      have sT := SqL.of (K := K) eT
      have x1 := lt2 ok.t0b (show 80 ≤ 4400 by decide)
      have x2 := lt2 ok.t1b (show 80 ≤ 4400 by decide)
      have x3 := lt2 (ok.u0b hf) (show 900 ≤ 4400 by decide)
      have x4 := lt2 (ok.u1b hf) (show 900 ≤ 4400 by decide)
      walk_at "go"
      unfold Md.top at q
      by_cases c : m.t1 * m.u0 (Pm.cnt m.rs 0 f) < m.t0 * m.u1 (Pm.cnt m.rs 1 f)
      · rw [if_pos c] at q
        walk_at "go"
        exact q _ _ z2 g1
      · rw [if_neg c] at q
        walk_at "go"
        exact q _ _ z2 g0
theorem ok_ltop {f : Addr} {fd : FuncData} (F : Df K "_law_top" "_law_top" s_ltop [] f fd) (cTa : Ca P w K mg base 2 "_law_top_at" (sp_ltopat K) []) (cCt : Ca P w K mg base 1 "_law_counts" (sp_lcounts K) []) : FnOk P w K mg base CX0 3 f fd ["_law_model_here", "_law_deep"] (sp_ltop K) := by
  refine dfOk F sc_ltop (fun vs H Q E h => ?_) (fun cdv A outer s H vs Q E hr h => ?_)
  · obtain ⟨u, m, f, rfl, _⟩ := h
    rfl
  · obtain ⟨u, m, f, rfl, hm, hf, q⟩ := h
    obtain ⟨D, kvs, R, L, Z, S, rfl, eD, h1, h2, h3, h4, h5, d1, d2, d3, d4⟩ := hm.ex
    have ok := hm.ok.rs
    refine ⟨_, (pss_one (ps_ret (pe_ca cTa hr (by decide) (by rfl) (pa_cons (pv 0) (pa_cons (pe_ca cCt hr (by decide) (by rfl) (pa_cons (pe_dget (units1 hr) (pv 0) pe_str (fun _ _ => rfl)) (pa_cons (pv 1) pa_nil))) pa_nil))))), ?_⟩
    refine go_start (σ := [some _, some _]) rfl ?_
    walk_at "go"
    exact q _ _ (by tb_rel) (by assumption)
theorem ok_ltold {f : Addr} {fd : FuncData} (F : Df K "_law_is_told" "_law_is_told" s_ltold [] f fd) (B : Blt mg) (GR : RtG K mg CR) (cRt : Ma P w K mg base 2 "Ratio" CR (sp_rinit CR) []) (cEqR : Op2 P w K mg base 1 CR "__eq__" (sp_req CR)) : FnOk P w K mg base CX0 4 f fd ["_law_told", "_law_due"] (sp_ltold K CR) := by
  refine dfOk F sc_ltold (fun vs H Q E h => ?_) (fun cdv A outer s H vs Q E hr h => ?_)
  · obtain ⟨u, v, q, a, b, rfl, _⟩ := h
    rfl
  · obtain ⟨u, v, r, a, b, rfl, ho, hd, b0, bz, q⟩ := h
    obtain ⟨t, rfl, et⟩ := pair_at hd
    have hb : (b : Int) ≠ 0 := by omega
    have hl : (b : Int).natAbs.log2 < 9000 := by
      rw [Int.natAbs_natCast]
      exact lg_lt (lt2 bz (by decide)) (by decide)
    have I := GR.I
    refine ⟨_, (pss_one (ps_ret (pe_and (pe_callB call_isi' (by rfl) B.isinstance bt_isinstance (pa_cons (pv 0) (pa_cons (pe_glob (by rfl) GR.mgC (v := .ref CR) rfl) pa_nil))) (pe_one (pe_cmpR (op_eqO' cEqR hr (by decide)) (pv 0) (pe_ma cRt hr (by decide) (by rfl) (pa_cons (pe_ix ix_tup' (pv 1) pe_int (fun _ _ => rfl)) (pa_cons (pe_ix ix_tup' (pv 1) pe_int (fun _ _ => rfl)) pa_nil))) (nomark _)))))), ?_⟩
    refine go_start (σ := [some _, some _]) rfl ?_
    walk_at "go"
    exact q _ (by tb_rel)
end
end T
set_option Elab.async false
set_option maxRecDepth 100000
set_option maxHeartbeats 4000000
set_option exponentiation.threshold 6000
namespace T
open PySem L2 Mv
abbrev s_right : Stmt := top 82
theorem sc_right : FnScope ["_law_pot_here", "_law_model_here", "_law_meter", "_law_many", "_law_growth", "_law_far", "_law_some", "_law_deep"] ["_law_pot_here"] (defScope s_right) := ⟨rfl, rfl, rfl, by decide +kernel, rfl, by decide +kernel, by decide +kernel⟩
section
variable {P : Program} {w : World} {K : PySem.W.Frag} {mg : Str → Option Value} {base : Heap} {C AX CR CM CG KD : Addr}
def sp_right : Sp := fun vs H Q _ => ∃ (p : Addr), vs = [.ref p] ∧ Pot H p ∧ ∀ H', Pot H' p → Bu p H H' → Q (.bl true) H'
theorem c_right {p : Addr} {H : Hp} {Q : VK} {E : XK} (h0 : Pot H p) (q : ∀ H', Pot H' p → Bu p H H' → Q (.bl true) H') : sp_right  [.ref p] H Q E := ⟨_, rfl, h0, q⟩
local macro_rules | `(tactic| tb_rel) => `(tactic| repeat (first
  | with_reducible assumption
  | with_reducible exact Dp.int _
  | with_reducible exact Dp.str _
  | with_reducible exact Dp.bl _
  | with_reducible exact Dp.non
  | (with_reducible apply SqT.of; with_reducible assumption)
  | (with_reducible apply SqL.of; with_reducible assumption)
  | (with_reducible apply up_dp; with_reducible assumption)
  | (with_reducible apply up_sqt; with_reducible assumption)
  | (with_reducible apply up_sql; with_reducible assumption)
  | (with_reducible apply up_get; with_reducible assumption)
  | (with_reducible apply up_pot; with_reducible assumption)
  | with_reducible exact Same.refl _
  | with_reducible exact Bu.refl _ _
  | (with_reducible apply up_same; with_reducible assumption)
  | (with_reducible apply up_bu; with_reducible assumption)
  | (with_reducible apply bu_bu; with_reducible assumption)
  | (with_reducible apply free_of; with_reducible assumption)
  | (with_reducible apply mi_fr; with_reducible assumption; (focus (tb_rel; done)))
  | (with_reducible apply mi_dp; with_reducible assumption)
  | (with_reducible apply mi_sqt; with_reducible assumption)
  | (with_reducible apply mi_sql; with_reducible assumption)
  | (with_reducible apply mi_gett; with_reducible assumption)
  | (with_reducible apply mi_getl; with_reducible assumption)
  | (with_reducible apply mi_pot; with_reducible assumption)
  | (with_reducible apply mi_refl; with_reducible assumption; (focus (with_unfolding_all exact rfl)))
  | (with_reducible apply up_mi; with_reducible assumption)
  | (with_reducible apply mi_mi; with_reducible assumption)
  | (with_reducible apply mi_bu; with_reducible assumption)
  | with_reducible exact num_int _
  | (with_reducible apply rat_of; with_reducible assumption)
  | (with_reducible apply num_rat; (focus (tb_rel; done)))
  | (with_reducible apply up_plan; with_reducible assumption)
  | (with_reducible apply bu_plan; with_reducible assumption; (focus (tb_rel; done)))
  | (with_reducible apply mi_plan; with_reducible assumption; (focus (lcg_src; done)))
  | (with_reducible apply up_rat; with_reducible assumption)
  | (with_reducible apply up_num; with_reducible assumption)
  | (with_reducible apply mi_rat; with_reducible assumption; (focus (lcg_src; done)))
  | (with_reducible apply mi_num; with_reducible assumption; (focus (lcg_src; done)))
  | (with_reducible apply bu_rat; with_reducible assumption; (focus (tb_rel; done)))
  | (with_reducible apply bu_num; with_reducible assumption; (focus (tb_rel; done)))
  | (with_reducible apply up_map; with_reducible assumption)
  | (with_reducible apply up_bd; with_reducible assumption)
  | (with_reducible apply bd_bd; with_reducible assumption)
  | (with_reducible apply bd_same; with_reducible assumption; (focus (tb_rel; done)))
  | (with_reducible apply bd_bup; with_reducible assumption; (focus (tb_rel; done)))
  | (with_reducible apply bu_getd; with_reducible assumption; (focus (tb_rel; done)))
  | (with_reducible apply bd_dp; with_reducible assumption)
  | (with_reducible apply bd_sqt; with_reducible assumption)
  | (with_reducible apply bd_sql; with_reducible assumption)
  | (with_reducible apply bd_gett; with_reducible assumption)
  | (with_reducible apply bd_getl; with_reducible assumption)
  | (with_reducible apply bd_geti; with_reducible assumption)
  | (with_reducible apply bd_pot; with_reducible assumption)
  | (with_reducible apply bd_plan; with_reducible assumption)
  | (with_reducible apply bd_rat; with_reducible assumption)
  | (with_reducible apply bd_num; with_reducible assumption)
  | (with_reducible apply bd_map; with_reducible assumption)
  | (with_reducible apply pf_dp; with_reducible assumption; (focus (tb_rel; done)); (focus (lcg_src; done)))
  | (with_reducible apply up_mdl; with_reducible assumption)
  | (with_reducible apply bu_mdl; with_reducible assumption; (focus (tb_rel; done)))
  | (with_reducible apply bd_mdl; with_reducible assumption; (focus (tb_rel; done)))
  | (with_reducible apply up_gau; with_reducible assumption)
  | (with_reducible apply bu_gau; with_reducible assumption; (focus (tb_rel; done)))
  | (with_reducible apply bu_map; with_reducible assumption; (focus (tb_rel; done)))
  | (with_reducible apply bu_gett; with_reducible assumption; (focus (tb_rel; done)))
  | (with_reducible apply bu_geti; with_reducible assumption; (focus (tb_rel; done)))
  | (with_reducible apply bu_get; with_reducible assumption; (focus (tlg_ne; done)))
  | (with_reducible apply bu_sqt; with_reducible assumption; (focus (tb_rel; done)))
  | (with_reducible apply bu_sql; with_reducible assumption; (focus (tlg_ne; done)))
  | (with_reducible apply bu_dp; with_reducible assumption; (focus (tb_rel; done)); (focus (lcg_src; done)))
  | fail "up"))
local macro_rules | `(tactic| tlg_ne) => `(tactic| first
  | with_reducible assumption
  | (with_reducible apply pot_ne; with_reducible assumption; (focus (tb_rel; done)))
  | fail "ne")
local macro_rules | `(tactic| lcg_src) => `(tactic| first
  | with_reducible assumption
  | with_unfolding_all exact rfl
  | with_unfolding_all decide
  | with_unfolding_all exact Nat.ne_of_beq_eq_false rfl
  | (apply_assumption; done)
  | omega
  | (simp; done)
  | (simp; omega)
  | fail "sd")
local macro_rules | `(tactic| lcg_sub) => `(tactic| first
  | (unfold sizeLine; omega)
  | (simp only [List.length_cons, List.length_nil, List.length_append, List.length_map, List.length_replicate, List.length_take, List.length_drop]; unfold sizeLine; omega)
  | (simp; unfold sizeLine; omega)
  | fail "sz")
local macro_rules | `(tactic| nest_cls) => `(tactic| first
  | (tb_rel; done)
  | (with_reducible apply nmI; (focus (tb_rel; done)))
  | (with_reducible apply d_tup; (focus (tb_rel; done)); (focus (lsm_bools; done)))
  | (with_reducible apply d_lst; (focus (tb_rel; done)); (focus (lsm_bools; done)))
  | fail "dp")
local macro_rules | `(tactic| lsm_bools) => `(tactic| repeat (first
  | with_reducible exact DpAll.nil
  | with_reducible assumption
  | (with_reducible apply DpAll.cons; (focus (nest_cls; done)))
  | fail "dpa"))
local macro_rules | `(tactic| none_booked) => `(tactic| first | with_unfolding_all exact rfl | (with_reducible apply atI_nat; with_reducible assumption) | fail "ix")
local macro_rules | `(tactic| walk_at "go") => `(tactic| repeat (first
  | (focus (with_reducible refine go_var (v := ?_) ?_ ?_; rotate_left; (focus (with_unfolding_all exact rfl))))
  | with_reducible refine go_seq ?_
  | with_reducible refine go_cN ?_
  | with_reducible refine go_c ?_
  | with_reducible refine go_op ?_
  | with_reducible refine go_nil ?_
  | with_reducible refine go_cons ?_
  | with_reducible refine go_cb ?_
  | with_reducible refine go_call0 ?_
  | with_reducible refine go_asg ?_
  | (focus (with_reducible refine go_gname (σ' := ?_) ?_ ?_; rotate_left; (focus (simp only [List.set_cons_succ, List.set_cons_zero]; exact rfl))))
  | with_reducible refine go_par ?_
  | (focus (with_reducible refine go_par2 (σ' := ?_) ?_ ?_; rotate_left; (focus (simp only [List.set_cons_succ, List.set_cons_zero]; exact rfl))))
  | with_reducible refine go_ifs ?_
  | with_reducible refine go_test ?_
  | with_reducible refine go_tb ?_
  | with_reducible refine go_asb ?_
  | with_reducible refine go_asi ?_
  | with_reducible refine go_ret ?_
  | with_reducible refine go_retn ?_
  | with_reducible refine go_drop ?_
  | with_reducible refine go_next ?_
  | with_reducible refine go_and ?_
  | with_reducible refine go_or ?_
  | with_reducible refine go_not ?_
  | with_reducible refine go_andv ?_
  | with_reducible refine go_orv ?_
  | with_reducible refine go_notv ?_
  | with_reducible refine go_ife ?_
  | with_reducible refine go_chain ?_
  | with_reducible refine go_if1 ?_
  | with_reducible refine go_if0 ?_
  | with_reducible refine go_ifn1 ?_
  | with_reducible refine go_ifn0 ?_
  | (with_reducible apply go_ift; (focus (first | with_reducible rfl | with_reducible assumption | omega)))
  | (with_reducible apply go_ifnt; (focus (first | with_reducible rfl | with_reducible assumption | omega)))
  | (with_reducible apply go_iff; (focus (first | with_reducible assumption | omega)))
  | (with_reducible apply go_ifnf; (focus (first | with_reducible assumption | omega)))
  | with_reducible refine go_un ?_
  | with_reducible refine go_tup ?_
  | with_reducible refine go_lst ?_
  | (with_reducible apply go_newt; (focus (lcg_sub; done)); intros)
  | (with_reducible apply go_newl; (focus (lcg_sub; done)); intros)
  | with_reducible refine go_meth ?_
  | with_reducible refine go_for ?_
  | with_reducible refine go_lc ?_
  | with_reducible refine go_irng1 ?_
  | with_reducible refine go_irng2 ?_
  | with_reducible refine go_ilist ?_
  | with_reducible refine go_itup ?_
  | with_reducible refine go_izip ?_
  | with_reducible refine go_ienum ?_
  | (with_reducible apply go_rg1; (focus (lcg_src; done)))
  | (with_reducible apply go_rg2; (focus (lcg_src; done)); (focus (lcg_src; done)))
  | (with_reducible apply go_lsr; (focus (tb_rel; done)))
  | (with_reducible apply go_tpr; (focus (tb_rel; done)))
  | (with_reducible apply go_zpr; (focus (tb_rel; done)); (focus (tb_rel; done)))
  | (with_reducible apply go_zprT; (focus (tb_rel; done)); (focus (tb_rel; done)))
  | (with_reducible apply go_enrL; (focus (tb_rel; done)))
  | (with_reducible apply go_enrT; (focus (tb_rel; done)))
  | with_reducible refine go_prop ?_
  | with_reducible refine go_knr0 ?_
  | (with_reducible apply go_knr; (focus (with_unfolding_all exact rfl; done)); (focus (simp only [kSw2, kRev3, kId, List.nil_append, List.cons_append]; exact rfl)))
  | with_reducible refine go_mkn ?_
  | (with_reducible apply go_mkr; (focus (tb_rel; done)); (focus (with_unfolding_all exact rfl; done)))
  | with_reducible refine go_fld ?_
  | (with_reducible apply go_flr; (focus (tb_rel; done)); (focus (with_reducible assumption; done)); (focus (with_reducible assumption; done)); (focus (with_unfolding_all exact rfl; done)))
  | (with_reducible apply go_prr; (focus (tb_rel; done)))
  | (with_reducible apply go_mer; (focus (tb_rel; done)); (focus (with_unfolding_all exact rfl; done)))
  | with_reducible refine go_sfld ?_
  | (with_reducible apply go_sfr; (focus (tb_rel; done)); (focus (with_reducible assumption; done)); (focus (with_reducible assumption; done)); (focus (with_unfolding_all exact Nat.le_of_ble_eq_true rfl; done)); (focus (with_unfolding_all exact rfl; done)); intros)
  | with_reducible refine go_revt ?_
  | with_reducible refine go_make0 ?_
  | (focus (with_reducible refine go_aug (x := ?_) ?_ ?_; rotate_left; (focus (with_unfolding_all exact rfl))))
  | (focus (with_reducible refine go_augk (σ' := ?_) ?_ ?_; rotate_left; (focus (simp only [List.set_cons_succ, List.set_cons_zero]; exact rfl))))
  | with_reducible refine go_min2 ?_
  | with_reducible refine go_int1 ?_
  | with_reducible refine go_max2 ?_
  | with_reducible refine go_intB ?_
  | with_reducible refine go_absN ?_
  | with_reducible refine go_isN ?_
  | with_reducible refine go_notN ?_
  | (with_reducible apply go_rvt; (focus (tb_rel; done)); (focus (simp only [List.reverse_cons, List.reverse_nil, List.nil_append, List.cons_append]; exact rfl)); intros)
  | (with_reducible apply go_reprNm; (focus (tb_rel; done)); (focus (with_reducible assumption; done)))
  | (with_reducible apply go_reprPr; (focus (nest_cls; done)); (focus (lcg_src; done)); (focus (lcg_src; done)))
  | with_reducible refine go_sl ?_
  | with_reducible refine go_part ?_
  | with_reducible refine go_nopart ?_
  | (with_reducible apply go_gtup; (focus (tb_rel; done)); (focus (with_unfolding_all exact rfl; done)))
  | (with_reducible apply go_gunl; (focus (tb_rel; done)); (focus (with_unfolding_all exact rfl; done)))
  | with_reducible refine go_gcons ?_
  | with_reducible refine go_gnil ?_
  | with_reducible refine go_addN ?_
  | with_reducible refine go_ltN ?_
  | with_reducible refine go_leN ?_
  | with_reducible refine go_gtN ?_
  | with_reducible refine go_geN ?_
  | (with_reducible apply go_subN; (focus (omega; done)))
  | with_reducible refine go_rI0 ?_
  | (with_reducible apply go_mulN; (focus (omega; done)))
  | (with_reducible apply go_modN; (focus (omega; done)))
  | (with_reducible apply go_divN; (focus (omega; done)))
  | (with_reducible apply go_powN; (focus (with_unfolding_all decide; done)))
  | with_reducible refine go_rU ?_
  | with_reducible refine go_eqN ?_
  | with_reducible refine go_neN ?_
  | with_reducible refine go_isB ?_
  | with_reducible refine go_notB ?_
  | with_reducible refine go_eqS ?_
  | with_reducible refine go_neS ?_
  | with_reducible refine go_eqB ?_
  | with_reducible refine go_eqI ?_
  | with_reducible refine go_neI ?_
  | (with_reducible apply go_ixt; (focus (tb_rel; done)); (focus (none_booked; done)))
  | (with_reducible apply go_ixl; (focus (tb_rel; done)); (focus (none_booked; done)))
  | (with_reducible apply go_lent; (focus (tb_rel; done)))
  | (with_reducible apply go_lenNm; (focus (tb_rel; done)))
  | (with_reducible apply go_isiNm; (focus (tb_rel; done)))
  | (with_reducible apply go_lenl; (focus (tb_rel; done)))
  | (with_reducible apply go_catA; (focus (tb_rel; done)); (focus (tb_rel; done)); (focus (lcg_sub; done)); intros)
  | (with_reducible apply go_slaT; (focus (tb_rel; done)); intros)
  | (with_reducible apply go_slaD; (focus (tb_rel; done)); intros)
  | (with_reducible apply go_rep; (focus (tb_rel; done)); (focus (lcg_src; done)); intros)
  | (with_reducible apply go_tupofl; (focus (tb_rel; done)); intros)
  | (with_reducible apply go_sllT; (focus (tb_rel; done)); intros)
  | (with_reducible apply go_sllD; (focus (tb_rel; done)); intros)
  | (with_reducible apply go_cat; (focus (tb_rel; done)); (focus (tb_rel; done)); (focus (lcg_sub; done)); intros)
  | (with_reducible apply go_eqP; with_reducible assumption; (focus (tb_rel; done)); (focus (tb_rel; done)))
  | (with_reducible apply go_neP; with_reducible assumption; (focus (tb_rel; done)); (focus (tb_rel; done)))
  | (with_reducible apply go_mkrat; with_reducible assumption; with_reducible assumption; intros)
  | (with_reducible apply go_mkrat1; intros)
  | (with_reducible apply go_merR; (focus (tb_rel; done)); (focus decide); (focus decide))
  | (with_reducible apply go_prR; (focus (tb_rel; done)))
  | (with_reducible apply go_mep; (focus (tb_rel; done)); (focus decide); (focus decide); (focus decide))
  | (with_reducible apply c_drawN; (focus (tb_rel; done)); (focus (lcg_src; done)); (focus (lcg_src; done)); intros)
  | (with_reducible apply c_ggreat; (focus (tb_rel; done)); (focus (lcg_src; done)); (focus (lcg_src; done)); (focus (lcg_src; done)); intros)
  | (with_reducible apply c_lcounts; (focus (nest_cls; done)); (focus (lcg_src; done)); (focus (lcg_src; done)); intros)
  | (with_reducible apply c_lgauge; (focus (tb_rel; done)); (focus (tb_rel; done)); intros)
  | (with_reducible apply c_lmodel; (focus (tb_rel; done)); intros)
  | (with_reducible apply c_ltold; (focus (tb_rel; done)); (focus (nest_cls; done)); (focus (lcg_src; done)); (focus (lcg_src; done)); intros)
  | (with_reducible apply c_ltop; (focus (tb_rel; done)); (focus (lcg_src; done)); intros)
  | (with_reducible apply c_rbelow; (focus (tb_rel; done)); (focus (tb_rel; done)); (focus (lcg_src; done)); (focus (lcg_src; done)); intros)
  | (with_reducible apply c_req; (focus (tb_rel; done)); (focus (tb_rel; done)); intros)
  | (with_reducible apply c_right; (focus (tb_rel; done)); intros)
  | (with_reducible apply c_rmul; (focus (tb_rel; done)); (focus (tb_rel; done)); (focus (lcg_src; done)); (focus (lcg_src; done)); intros)
  | (with_reducible apply go_eqR; with_reducible assumption; (focus (tb_rel; done)); (focus (tb_rel; done)))
  | (with_reducible apply go_neR; with_reducible assumption; (focus (tb_rel; done)); (focus (tb_rel; done)))
  | (with_reducible apply go_isiR; with_reducible assumption; (focus (tb_rel; done)))
  | (with_reducible apply go_mulR; (focus (tb_rel; done)); (focus (lcg_src; done)); (focus (lcg_src; done)); intros)
  | with_reducible refine go_dget ?_
  | with_reducible refine go_dgr2 ?_
  | with_reducible refine go_dput ?_
  | with_reducible refine go_dpr2 ?_
  | with_reducible refine go_dpt ?_
  | with_reducible refine go_pnil ?_
  | with_reducible refine go_pcons ?_
  | with_reducible refine go_gsub ?_
  | with_reducible refine go_sir ?_
  | with_reducible refine go_lrg ?_
  | with_reducible refine go_rgt2 ?_
  | with_reducible refine go_rge ?_
  | with_reducible refine go_revl ?_
  | (with_reducible apply go_dgk; (focus (tb_rel; done)); with_reducible assumption)
  | (with_reducible apply go_dpk; (focus (tb_rel; done)); (focus (lcg_sub; done)); intros)
  | (with_reducible apply go_disp; intros)
  | (with_reducible apply go_dsk2; (focus (tb_rel; done)); intros)
  | (with_reducible apply go_lrr; (focus (omega; done)); (focus (omega; done)); intros)
  | (with_reducible apply go_rvl; (focus (tb_rel; done)); intros)
  | (with_reducible apply go_lenRds; (focus (tb_rel; done)))
  | (with_reducible apply go_dgR; (focus (tb_rel; done)); intros)
  | (with_reducible apply go_meG; (focus (tb_rel; done)); (focus (with_unfolding_all exact rfl)))
  | (with_reducible apply go_mkG; (focus (tb_rel; done)); (focus (with_unfolding_all exact rfl)))
  | fail "go"))
theorem ok_right {f : Addr} {fd : FuncData} (F : Df K "_law_right" "_law_right" s_right [] f fd) (B : Blt mg) (GR : RtG K mg CR) (RI : BnI K CR .Mult) (cDr : Ca P w K mg base 1 "_law_draw" sp_draw []) (cMo : Ca P w K mg base 4 "_law_model" (sp_lmodel K) []) (cGg : Ca P w K mg base 10 "_law_gauge" (sp_lgauge K C CR CM CG) []) (cCt : Ca P w K mg base 1 "_law_counts" (sp_lcounts K) []) (cTp : Ca P w K mg base 3 "_law_top" (sp_ltop K) []) (cIt : Ca P w K mg base 4 "_law_is_told" (sp_ltold K CR) [])
    (cGr : Me P w K mg base 9 CG "greatest" (sp_ggreat K C CR CM CG) []) (cGrK : MeK P w K mg base 9 CG "greatest" (sp_ggreat K C CR CM CG) ["f"] kId) (cLt : Me P w K mg base 5 CR "is_below" (sp_rbelow CR) []) (cMul : Op3 P w K mg base 5 CR "__mul__" (sp_rmul CR)) (cEqR : Op2 P w K mg base 1 CR "__eq__" (sp_req CR)) : FnG P w K mg base 11 f fd ["_law_pot_here"] sp_right := by
  refine dfG F sc_right (fun vs H Q E h => ?_) (fun cdv A outer s H vs Q E hr ga h => ?_)
  · obtain ⟨p, rfl, _⟩ := h
    rfl
  · obtain ⟨p, rfl, hp, q⟩ := h
    have I := GR.I
    refine ⟨_, (pss_cons (ps_set (i := 1) sc_right.nd rfl (Or.inr rfl) (pe_ca cMo hr (by decide) (by rfl) (pa_cons (pv 0) pa_nil)))
  (pss_cons (ps_asg (pe_tup (pa_cons (pe_ca cGg hr (by decide) (by rfl) (pa_cons (pv 0) (pa_cons (pv 1) pa_nil))) (pa_cons (pe_callB call_len_seq' (by rfl) B.len bt_len (pa_cons (pe_dget (units1 hr) (pv 1) pe_str (fun _ _ => rfl)) pa_nil)) pa_nil))) (pg_tup' 2 (pgs_cons (pg_name (i := 2) sc_right.nd rfl (Or.inr rfl)) (pgs_cons (pg_name (i := 3) sc_right.nd rfl (Or.inl rfl)) pgs_nil))))
  (pss_cons (ps_par (i := 4) (j := 5) (by rfl) sc_right.nd rfl rfl (by decide) rfl rfl (pa_cons (pe_ix ix_list' (pe_ca cCt hr (by decide) (by rfl) (pa_cons (pe_dget (units1 hr) (pv 1) pe_str (fun _ _ => rfl)) (pa_cons (pv 3) pa_nil))) pe_int (fun _ _ => rfl)) (pa_cons (pe_op op_add pe_int (pe_ca cDr hr (by decide) (by rfl) (pa_cons (pv 0) (pa_cons pe_int pa_nil)))) pa_nil)) (by rfl))
  (pss_cons (ps_set (i := 6) sc_right.nd rfl (Or.inl rfl) (pe_op op_cat (pe_listRg (by rfl) (by rfl) B.list (prg_2 (by rfl) B.range pe_int (pe_op op_add (pe_op op_mul pe_int (pv 3)) pe_int))) (pe_lst (pa_cons (pv 5) (pa_cons (pe_op op_add (pv 5) (pv 3)) pa_nil)))))
  (pss_cons (ps_for PassesOwn.never rfl (pi_list' (pv 6)) (pg_name (i := 7) sc_right.nd rfl (Or.inl rfl))
  (pss_cons (ps_if (pt_not (pt_val (pe_ca cIt hr (by decide) (by rfl) (pa_cons (pe_me cGr hr (by decide) (pv 2) (pa_cons (pv 7) pa_nil)) (pa_cons (pe_ca cTp hr (by decide) (by rfl) (pa_cons (pv 1) (pa_cons (pv 7) pa_nil))) pa_nil)))))
  (pss_one (ps_ret pe_bl))
  pss_nil)
  (pss_cons (ps_if (pt_val (pe_me cLt hr (by decide) (pe_me cGr hr (by decide) (pv 2) (pa_cons (pv 7) pa_nil)) (pa_cons (pe_me cGr hr (by decide) (pv 2) (pa_cons (pe_op op_add (pv 7) pe_int) pa_nil)) pa_nil)))
  (pss_one (ps_ret pe_bl))
  pss_nil)
  (pss_one (ps_if (pt_cmpR (op_neO' cEqR hr (by decide) GR.I.ne GR.I.hm) (pe_op (op_binI' cMul RI hr (by decide)) (pe_mek cGrK hr (by decide) (pv 2) (pk_cons (pe_op op_add (pv 7) (pv 3)) pk_nil)) (pv 4)) (pe_me cGr hr (by decide) (pv 2) (pa_cons (pv 7) pa_nil)) (nomark _))
  (pss_one (ps_ret pe_bl))
  pss_nil)))))
  (pss_one (ps_ret (pe_callB (cr_all' rfl) (by rfl) B.all bt_all (pa_cons (pe_lc (own := [("_law_deep", 7)]) (by rfl) sc_right.nd (pi_list' (pe_revL' (pv 6))) (blkOk_by (own := [("_law_deep", 7)]) (N := ["_law_pot_here", "_law_model_here", "_law_meter", "_law_many", "_law_growth", "_law_far", "_law_some", "_law_deep"]) (sc := defScope s_right) (by decide +kernel)) (fun _ _ _ _ _ => (pg_name (i := 7) sc_right.nd rfl (Or.inl rfl))) (fun _ _ _ _ _ => pts_nil) (fun _ _ _ _ _ => (pe_ca cIt hr (by decide) (by rfl) (pa_cons (pe_me cGr hr (by decide) (pv 2) (pa_cons (pv 7) pa_nil)) (pa_cons (pe_ca cTp hr (by decide) (by rfl) (pa_cons (pv 1) (pa_cons (pv 7) pa_nil))) pa_nil))))) pa_nil))))))))), ?_⟩
    refine go_start (σ := [some _, none, none, none, none, none, none, none]) rfl ?_
    walk_at "go"
    rename_i u m J1 hm p1 b1 g G J2 nG hg p2 b2 R1 dR1 t3 J3 n3 z3 e3 R2 dR2
    have ok := hm.ok
    have okr := ok.rs
    have l1 := okr.1
    have l3 : m.rs.length ≤ 1000 := Nat.le_trans okr.2.1 (by decide)
    have l4 := okr.2.1
    walk_at "go"
    rename_i l4' J4 n4 z4 e4 d J5 ld p5 b5 l6 J6 n6 z6 e6 l7 J7 n7 z7 e7 S J8 n8 z8 e8
    have nG0 : H G = none := by
      cases h : H G with
      | none => rfl
      | some o =>
        rw [b1 _ _ (p1.ne nG) h] at nG
        cases nG
    have hg8 : GauAt K C CR CM CG J8 g G m.rs m.x m.y m.p m.q := by tb_rel
    have hm8 : MdAt K J8 u m := by tb_rel
    have p8 : Pot J8 p := by tb_rel
    have b8 : Bu p H J8 := by tb_rel
    have hG8 : ∃ kvs, J8 G = some (.dK kvs) := by
      obtain ⟨_, _, _, _, _, _, _, _, kvs, _, _, _, _, _, _, eG, _⟩ := hg8.ex
      exact ⟨kvs, eG⟩
    have items : ∀ x, x ∈ (List.range (3 * m.rs.length + 3 - 1)).map (fun k => V.int ((1 + k : Nat) : Int)) ++ [V.int ((1 + d : Nat) : Int), V.int ((1 + d + m.rs.length : Nat) : Int)] → ∃ n : Nat, x = .int (n : Int) ∧ 1 ≤ n ∧ n ≤ 76 := by
      intro x hx
      rcases List.mem_append.mp hx with hx | hx
      · obtain ⟨k, hk, rfl⟩ := List.mem_map.mp hx
        have := List.mem_range.mp hk
        exact ⟨1 + k, rfl, by omega, by omega⟩
      · simp only [List.mem_cons, List.not_mem_nil, or_false] at hx
        rcases hx with rfl | rfl
        · exact ⟨1 + d, rfl, by omega, by omega⟩
        · exact ⟨1 + d + m.rs.length, rfl, by omega, by omega⟩
    have lenS : ((List.range (3 * m.rs.length + 3 - 1)).map (fun k => V.int ((1 + k : Nat) : Int)) ++ [V.int ((1 + d : Nat) : Int), V.int ((1 + d + m.rs.length : Nat) : Int)]).length ≤ 100000 := by
      simp only [List.length_append, List.length_map, List.length_range, List.length_cons, List.length_nil]
      omega
    generalize ((List.range (3 * m.rs.length + 3 - 1)).map (fun k => V.int ((1 + k : Nat) : Int)) ++ [V.int ((1 + d : Nat) : Int), V.int ((1 + d + m.rs.length : Nat) : Int)]) = xs at *
    clear e3 e4 e6 e7 z3 z4 z6 z7 z8 b1 b2 b5 hm hg dR1 dR2 p1 p2 p5 n3 n4 n6 n7 n8 nG
    have szG : SzQ (((Pm.cnt m.rs 0 m.rs.length : Nat) : Int) : Rat) := sz_nat (lt2 (ok.cn (by decide) (by omega)) (by decide))
    refine forList (K := K) (xs := xs) (fun i σ H' => ∃ v7, σ = [some (.ref p), some u, some g, some (.int (m.rs.length : Int)), some (.int ((Pm.cnt m.rs 0 m.rs.length : Nat) : Int)), some (.int ((1 + d : Nat) : Int)), some (.ref S), v7] ∧ Bd G J8 H' ∧ GauAt K C CR CM CG H' g G m.rs m.x m.y m.p m.q) ⟨_, rfl, ⟨hG8, Bu.refl _ _⟩, hg8⟩ (fun i σ H' h => by obtain ⟨_, _, b, _⟩ := h; exact bd_sql b (SqL.of e8)) ?_ ?_
    · rintro i x σ K1 hi hx ⟨v7, rfl, bd1, hg1⟩
      obtain ⟨n, rfl, n1, n2⟩ := items x (List.mem_of_getElem? hx)
      have hm1 : MdAt K K1 u m := bd_mdl bd1 hg8 hm8
      have s1 := ok.szg (f := n) (by omega)
      have s2 := ok.szg (f := n + 1) (by omega)
      have s3 := ok.szg (f := n + m.rs.length) (by omega)
      have y1 : SzQ (bnd m.rs m.x m.y m.p m.q n) := ok.szb (by omega)
      have y2 : SzQ (bnd m.rs m.x m.y m.p m.q (n + 1)) := ok.szb (by omega)
      have y3 : SzQ (bnd m.rs m.x m.y m.p m.q (n + m.rs.length)) := ok.szb (by omega)
      have c1 : bnd m.rs m.x m.y m.p m.q n = Rat.divInt ((m.top (Pm.cnt m.rs 0 n) (Pm.cnt m.rs 1 n)).1 : Nat) ((m.top (Pm.cnt m.rs 0 n) (Pm.cnt m.rs 1 n)).2 : Nat) := (ok.top_eq n).symm
      have c2 : ¬ bnd m.rs m.x m.y m.p m.q n < bnd m.rs m.x m.y m.p m.q (n + 1) := ok.fall n
      have c3 : bnd m.rs m.x m.y m.p m.q (n + m.rs.length) * (((Pm.cnt m.rs 0 m.rs.length : Nat) : Int) : Rat) = bnd m.rs m.x m.y m.p m.q n := ok.row n
      have w1 := ok.top_pos n
      have w2 : (m.top (Pm.cnt m.rs 0 n) (Pm.cnt m.rs 1 n)).2 < 2 ^ 4400 := lt2 (ok.top_sz (by omega)) (by decide)
      have n3 : n + 1 ≤ 1000 := by omega
      have n4 : n + m.rs.length ≤ 1000 := by omega
      have n5 : n ≤ 150 := by omega
      clear e8 p8 b8 hm8 hg8
      walk_at "go"
      exact ⟨_, rfl, by tb_rel, by tb_rel⟩
    · rintro σ K1 ⟨v7, rfl, bd1, hg1⟩
      have e9 : SqL K K1 S xs := bd_sql bd1 (SqL.of e8)
      walk_at "go"
      rename_i S2 K2 nS2 zS2 eS2
      have hg2 := up_gau zS2 hg1
      have bd2 : Bd G J8 K2 := up_bd zS2 bd1
      have hm2 : MdAt K K2 u m := bd_mdl bd2 hg8 hm8
      refine lcBd (K := K) (G := G) (xs := xs.reverse) (fun H' => GauAt K C CR CM CG H' g G m.rs m.x m.y m.p m.q) (fun H' b => bd_sql b (SqL.of eS2)) (by rw [List.length_reverse]; exact lenS) (by obtain ⟨_, _, _, _, _, _, _, _, kvs, _, _, _, _, _, _, eG, _⟩ := hg2.ex; exact ⟨kvs, eG⟩) hg2 (fun _ _ s h => up_gau s h) (fun H1 D zs o nD eD b h => gau_over hg2 h b eD nD) (fun _ => rfl) (fun i x H1 Q' hx bd3 hg3 hq => ?_) (fun D H1 nD bd3 hg3 eD => ?_)
      · obtain ⟨n, rfl, n1, n2⟩ := items x (List.mem_reverse.mp (List.mem_of_getElem? hx))
        have hm3 : MdAt K H1 u m := bd_mdl bd3 hg2 hm2
        have s1 := ok.szg (f := n) (by omega)
        have y1 : SzQ (bnd m.rs m.x m.y m.p m.q n) := ok.szb (by omega)
        have c1 : bnd m.rs m.x m.y m.p m.q n = Rat.divInt ((m.top (Pm.cnt m.rs 0 n) (Pm.cnt m.rs 1 n)).1 : Nat) ((m.top (Pm.cnt m.rs 0 n) (Pm.cnt m.rs 1 n)).2 : Nat) := (ok.top_eq n).symm
        have w1 := ok.top_pos n
        have w2 : (m.top (Pm.cnt m.rs 0 n) (Pm.cnt m.rs 1 n)).2 < 2 ^ 4400 := lt2 (ok.top_sz (by omega)) (by decide)
        have n5 : n ≤ 150 := by omega
        have n6 : n ≤ 1000 := by omega
        clear hg2 hm2 hg1 hg8 hm8 eS2 e9 e8 p8 b8 bd2 bd1 zS2
        walk_at "go"
        rw [decide_eq_true c1]
        exact hq _ (by tb_rel) (by tb_rel)
      · walk_at "go"
        refine go_all (SqL.of eD) ?_
        rw [trues_all]
        have bd4 : Bd G J8 H1 := bd_bd bd3 bd2
        exact q _ (bd_pot bd4 p8) (bd_bup bd4 nG0 b8)
end
end T
set_option Elab.async false
set_option maxRecDepth 100000
set_option maxHeartbeats 4000000
namespace T
open PySem L2 Mv
abbrev s_law : Stmt := top 83
theorem sc_law : FnScope ["_law_script", "_law_k"] ["_law_script"] (defScope s_law) := ⟨rfl, rfl, rfl, by decide +kernel, rfl, by decide +kernel, by decide +kernel⟩
section
variable {P : Program} {w : World} {K : PySem.W.Frag} {mg : Str → Option Value} {base : Heap} {C AX : Addr}
def sp_law (K : PySem.W.Frag) : Sp := fun vs H Q _ => ∃ (a : Addr) (ns : List Int), vs = [.ref a] ∧ SqL K H a (ns.map V.int) ∧ ns.length ≤ 63 ∧ ∀ H', Q (.bl true) H'
theorem c_law {K : PySem.W.Frag} {a : Addr} {ns : List Int} {H : Hp} {Q : VK} {E : XK} (h0 : SqL K H a (ns.map V.int)) (h1 : ns.length ≤ 63) (q : ∀ H', Q (.bl true) H') : sp_law K [.ref a] H Q E := ⟨_, _, rfl, h0, h1, q⟩
local macro_rules | `(tactic| tb_rel) => `(tactic| repeat (first
  | with_reducible assumption
  | with_reducible exact Dp.int _
  | with_reducible exact Dp.str _
  | with_reducible exact Dp.bl _
  | with_reducible exact Dp.non
  | (with_reducible apply SqT.of; with_reducible assumption)
  | (with_reducible apply SqL.of; with_reducible assumption)
  | (with_reducible apply up_dp; with_reducible assumption)
  | (with_reducible apply up_sqt; with_reducible assumption)
  | (with_reducible apply up_sql; with_reducible assumption)
  | (with_reducible apply up_get; with_reducible assumption)
  | (with_reducible apply up_pot; with_reducible assumption)
  | with_reducible exact Same.refl _
  | with_reducible exact Bu.refl _ _
  | (with_reducible apply up_same; with_reducible assumption)
  | (with_reducible apply up_bu; with_reducible assumption)
  | (with_reducible apply bu_bu; with_reducible assumption)
  | (with_reducible apply free_of; with_reducible assumption)
  | (with_reducible apply mi_fr; with_reducible assumption; (focus (tb_rel; done)))
  | (with_reducible apply mi_dp; with_reducible assumption)
  | (with_reducible apply mi_sqt; with_reducible assumption)
  | (with_reducible apply mi_sql; with_reducible assumption)
  | (with_reducible apply mi_gett; with_reducible assumption)
  | (with_reducible apply mi_getl; with_reducible assumption)
  | (with_reducible apply mi_pot; with_reducible assumption)
  | (with_reducible apply mi_refl; with_reducible assumption; (focus (with_unfolding_all exact rfl)))
  | (with_reducible apply up_mi; with_reducible assumption)
  | (with_reducible apply mi_mi; with_reducible assumption)
  | (with_reducible apply mi_bu; with_reducible assumption)
  | (with_reducible apply bu_gett; with_reducible assumption; (focus (tb_rel; done)))
  | (with_reducible apply bu_geti; with_reducible assumption; (focus (tb_rel; done)))
  | (with_reducible apply bu_get; with_reducible assumption; (focus (tlg_ne; done)))
  | (with_reducible apply bu_sqt; with_reducible assumption; (focus (tb_rel; done)))
  | (with_reducible apply bu_sql; with_reducible assumption; (focus (tlg_ne; done)))
  | (with_reducible apply bu_dp; with_reducible assumption; (focus (tb_rel; done)); (focus (lcg_src; done)))
  | fail "up"))
local macro_rules | `(tactic| tlg_ne) => `(tactic| first
  | with_reducible assumption
  | (with_reducible apply pot_ne; with_reducible assumption; (focus (tb_rel; done)))
  | fail "ne")
local macro_rules | `(tactic| lcg_src) => `(tactic| first
  | with_reducible assumption
  | with_unfolding_all exact rfl
  | with_unfolding_all decide
  | with_unfolding_all exact Nat.ne_of_beq_eq_false rfl
  | (apply_assumption; done)
  | omega
  | (simp; done)
  | (simp; omega)
  | fail "sd")
local macro_rules | `(tactic| lcg_sub) => `(tactic| first
  | (unfold sizeLine; omega)
  | (simp only [List.length_cons, List.length_nil, List.length_append, List.length_map, List.length_replicate, List.length_take, List.length_drop]; unfold sizeLine; omega)
  | (simp; unfold sizeLine; omega)
  | fail "sz")
local macro_rules | `(tactic| nest_cls) => `(tactic| first
  | (tb_rel; done)
  | (with_reducible apply nmI; (focus (tb_rel; done)))
  | (with_reducible apply d_tup; (focus (tb_rel; done)); (focus (lsm_bools; done)))
  | (with_reducible apply d_lst; (focus (tb_rel; done)); (focus (lsm_bools; done)))
  | fail "dp")
local macro_rules | `(tactic| lsm_bools) => `(tactic| repeat (first
  | with_reducible exact DpAll.nil
  | with_reducible assumption
  | (with_reducible apply DpAll.cons; (focus (nest_cls; done)))
  | fail "dpa"))
local macro_rules | `(tactic| none_booked) => `(tactic| first | with_unfolding_all exact rfl | (with_reducible apply atI_nat; with_reducible assumption) | fail "ix")
local macro_rules | `(tactic| walk_at "go") => `(tactic| repeat (first
  | (focus (with_reducible refine go_var (v := ?_) ?_ ?_; rotate_left; (focus (with_unfolding_all exact rfl))))
  | with_reducible refine go_seq ?_
  | with_reducible refine go_cN ?_
  | with_reducible refine go_c ?_
  | with_reducible refine go_op ?_
  | with_reducible refine go_nil ?_
  | with_reducible refine go_cons ?_
  | with_reducible refine go_cb ?_
  | with_reducible refine go_call0 ?_
  | with_reducible refine go_asg ?_
  | (focus (with_reducible refine go_gname (σ' := ?_) ?_ ?_; rotate_left; (focus (simp only [List.set_cons_succ, List.set_cons_zero]; exact rfl))))
  | with_reducible refine go_par ?_
  | (focus (with_reducible refine go_par2 (σ' := ?_) ?_ ?_; rotate_left; (focus (simp only [List.set_cons_succ, List.set_cons_zero]; exact rfl))))
  | with_reducible refine go_ifs ?_
  | with_reducible refine go_test ?_
  | with_reducible refine go_tb ?_
  | with_reducible refine go_asb ?_
  | with_reducible refine go_asi ?_
  | with_reducible refine go_ret ?_
  | with_reducible refine go_retn ?_
  | with_reducible refine go_drop ?_
  | with_reducible refine go_next ?_
  | with_reducible refine go_and ?_
  | with_reducible refine go_or ?_
  | with_reducible refine go_not ?_
  | with_reducible refine go_andv ?_
  | with_reducible refine go_orv ?_
  | with_reducible refine go_notv ?_
  | with_reducible refine go_ife ?_
  | with_reducible refine go_chain ?_
  | with_reducible refine go_if1 ?_
  | with_reducible refine go_if0 ?_
  | with_reducible refine go_ifn1 ?_
  | with_reducible refine go_ifn0 ?_
  | (with_reducible apply go_ift; (focus (first | with_reducible rfl | with_reducible assumption | omega)))
  | (with_reducible apply go_ifnt; (focus (first | with_reducible rfl | with_reducible assumption | omega)))
  | (with_reducible apply go_iff; (focus (first | with_reducible assumption | omega)))
  | (with_reducible apply go_ifnf; (focus (first | with_reducible assumption | omega)))
  | with_reducible refine go_un ?_
  | with_reducible refine go_tup ?_
  | with_reducible refine go_lst ?_
  | (with_reducible apply go_newt; (focus (lcg_sub; done)); intros)
  | (with_reducible apply go_newl; (focus (lcg_sub; done)); intros)
  | with_reducible refine go_meth ?_
  | with_reducible refine go_for ?_
  | with_reducible refine go_lc ?_
  | with_reducible refine go_irng1 ?_
  | with_reducible refine go_irng2 ?_
  | with_reducible refine go_ilist ?_
  | with_reducible refine go_itup ?_
  | with_reducible refine go_izip ?_
  | with_reducible refine go_ienum ?_
  | (with_reducible apply go_rg1; (focus (lcg_src; done)))
  | (with_reducible apply go_rg2; (focus (lcg_src; done)); (focus (lcg_src; done)))
  | (with_reducible apply go_lsr; (focus (tb_rel; done)))
  | (with_reducible apply go_tpr; (focus (tb_rel; done)))
  | (with_reducible apply go_zpr; (focus (tb_rel; done)); (focus (tb_rel; done)))
  | (with_reducible apply go_zprT; (focus (tb_rel; done)); (focus (tb_rel; done)))
  | (with_reducible apply go_enrL; (focus (tb_rel; done)))
  | (with_reducible apply go_enrT; (focus (tb_rel; done)))
  | with_reducible refine go_prop ?_
  | with_reducible refine go_knr0 ?_
  | (with_reducible apply go_knr; (focus (with_unfolding_all exact rfl; done)); (focus (simp only [kSw2, kRev3, kId, List.nil_append, List.cons_append]; exact rfl)))
  | with_reducible refine go_mkn ?_
  | (with_reducible apply go_mkr; (focus (tb_rel; done)); (focus (with_unfolding_all exact rfl; done)))
  | with_reducible refine go_fld ?_
  | (with_reducible apply go_flr; (focus (tb_rel; done)); (focus (with_reducible assumption; done)); (focus (with_reducible assumption; done)); (focus (with_unfolding_all exact rfl; done)))
  | (with_reducible apply go_prr; (focus (tb_rel; done)))
  | (with_reducible apply go_mer; (focus (tb_rel; done)); (focus (with_unfolding_all exact rfl; done)))
  | with_reducible refine go_sfld ?_
  | (with_reducible apply go_sfr; (focus (tb_rel; done)); (focus (with_reducible assumption; done)); (focus (with_reducible assumption; done)); (focus (with_unfolding_all exact Nat.le_of_ble_eq_true rfl; done)); (focus (with_unfolding_all exact rfl; done)); intros)
  | with_reducible refine go_revt ?_
  | with_reducible refine go_make0 ?_
  | (focus (with_reducible refine go_aug (x := ?_) ?_ ?_; rotate_left; (focus (with_unfolding_all exact rfl))))
  | (focus (with_reducible refine go_augk (σ' := ?_) ?_ ?_; rotate_left; (focus (simp only [List.set_cons_succ, List.set_cons_zero]; exact rfl))))
  | with_reducible refine go_min2 ?_
  | with_reducible refine go_int1 ?_
  | with_reducible refine go_max2 ?_
  | with_reducible refine go_intB ?_
  | with_reducible refine go_absN ?_
  | with_reducible refine go_isN ?_
  | with_reducible refine go_notN ?_
  | (with_reducible apply go_rvt; (focus (tb_rel; done)); (focus (simp only [List.reverse_cons, List.reverse_nil, List.nil_append, List.cons_append]; exact rfl)); intros)
  | (with_reducible apply go_reprNm; (focus (tb_rel; done)); (focus (with_reducible assumption; done)))
  | (with_reducible apply go_reprPr; (focus (nest_cls; done)); (focus (lcg_src; done)); (focus (lcg_src; done)))
  | with_reducible refine go_sl ?_
  | with_reducible refine go_part ?_
  | with_reducible refine go_nopart ?_
  | (with_reducible apply go_gtup; (focus (tb_rel; done)); (focus (with_unfolding_all exact rfl; done)))
  | (with_reducible apply go_gunl; (focus (tb_rel; done)); (focus (with_unfolding_all exact rfl; done)))
  | with_reducible refine go_gcons ?_
  | with_reducible refine go_gnil ?_
  | with_reducible refine go_addN ?_
  | with_reducible refine go_ltN ?_
  | with_reducible refine go_leN ?_
  | with_reducible refine go_gtN ?_
  | with_reducible refine go_geN ?_
  | (with_reducible apply go_subN; (focus (omega; done)))
  | with_reducible refine go_rI0 ?_
  | (with_reducible apply go_mulN; (focus (omega; done)))
  | (with_reducible apply go_modN; (focus (omega; done)))
  | (with_reducible apply go_divN; (focus (omega; done)))
  | (with_reducible apply go_powN; (focus (with_unfolding_all decide; done)))
  | with_reducible refine go_rU ?_
  | with_reducible refine go_eqN ?_
  | with_reducible refine go_neN ?_
  | with_reducible refine go_isB ?_
  | with_reducible refine go_notB ?_
  | with_reducible refine go_eqS ?_
  | with_reducible refine go_neS ?_
  | with_reducible refine go_eqB ?_
  | with_reducible refine go_eqI ?_
  | with_reducible refine go_neI ?_
  | (with_reducible apply go_ixt; (focus (tb_rel; done)); (focus (none_booked; done)))
  | (with_reducible apply go_ixl; (focus (tb_rel; done)); (focus (none_booked; done)))
  | (with_reducible apply go_lent; (focus (tb_rel; done)))
  | (with_reducible apply go_lenNm; (focus (tb_rel; done)))
  | (with_reducible apply go_isiNm; (focus (tb_rel; done)))
  | (with_reducible apply go_lenl; (focus (tb_rel; done)))
  | (with_reducible apply go_catA; (focus (tb_rel; done)); (focus (tb_rel; done)); (focus (lcg_sub; done)); intros)
  | (with_reducible apply go_slaT; (focus (tb_rel; done)); intros)
  | (with_reducible apply go_slaD; (focus (tb_rel; done)); intros)
  | (with_reducible apply go_rep; (focus (tb_rel; done)); (focus (lcg_src; done)); intros)
  | (with_reducible apply go_tupofl; (focus (tb_rel; done)); intros)
  | (with_reducible apply go_sllT; (focus (tb_rel; done)); intros)
  | (with_reducible apply go_sllD; (focus (tb_rel; done)); intros)
  | (with_reducible apply go_cat; (focus (tb_rel; done)); (focus (tb_rel; done)); (focus (lcg_sub; done)); intros)
  | (with_reducible apply c_law; (focus (tb_rel; done)); (focus (lcg_src; done)); intros)
  | (with_reducible apply c_right; (focus (tb_rel; done)); intros)
  | fail "go"))
theorem ok_law {f : Addr} {fd : FuncData} (F : Df K "law" "law" s_law [] f fd) (B : Blt mg) (cPot : Ca P w K mg base 1 "_law_pot" (sp_pot K) []) (cRight : Cg P w K mg base 11 "_law_right" ["_law_pot_here"] sp_right []) :
    FnG P w K mg base 12 f fd ["_law_script"] (sp_law K) := by
  refine dfG F sc_law (fun vs H Q E h => ?_) (fun cdv A outer s H vs Q E hr ga h => ?_)
  · obtain ⟨a, ns, rfl, _⟩ := h
    rfl
  · obtain ⟨a, ns, rfl, hS, hlen, q⟩ := h
    have hl : (ns.map V.int).length ≤ 63 := by rw [List.length_map]; exact hlen
    refine ⟨_, (pss_one (ps_ret (pe_callB (cr_all' rfl) (by rfl) B.all bt_all (pa_cons (pe_lc (own := [("_law_k", 1)]) (by rfl) sc_law.nd (pi_range1 (by rfl) B.range (pa_cons (pe_callB (call_max2' rfl) (by rfl) B.max bt_max (pa_cons pe_int (pa_cons (pe_callB (call_min2' rfl) (by rfl) B.min bt_min (pa_cons (pe_callB call_len_seq' (by rfl) B.len bt_len (pa_cons (pv 0) pa_nil)) (pa_cons pe_int pa_nil))) pa_nil))) pa_nil)) (blkOk_by (own := [("_law_k", 1)]) (N := ["_law_script", "_law_k"]) (sc := defScope s_law) (by decide +kernel)) (fun _ _ _ _ _ => (pg_name (i := 1) sc_law.nd rfl (Or.inl rfl))) (fun _ _ _ _ _ => pts_nil) (fun _ _ _ _ _ => (pe_g cRight hr ga (by decide) (by rfl) (pa_cons (pe_ca cPot hr (by decide) (by rfl) (pa_cons (pv 0) (pa_cons (pv 1) pa_nil))) pa_nil)))) pa_nil)))), ?_⟩
    refine go_start (σ := [some _, none]) rfl ?_
    walk_at "go"
    refine lcRange (K := K) (fun _ => .bool true) (by omega) (fun _ _ => rfl) (fun _ => rfl) (fun i H1 Q' hi s1 hq => ?_) (fun D H1 ys nD s1 eD hall => ?_)
    · walk_at "go"
      refine ⟨a, ns, i, by simp, s1.seq hS, by omega, fun p hp x y hx hy hy2 => ?_⟩
      walk_at "go"
      refine ⟨p, rfl, ⟨x, y, upd_same, hx, hy, hy2⟩, fun H2 hp2 b2 => ?_⟩
      exact hq _ _ (fun c o ec => b2 c o (ne_of_none ec hp) (same_new hp _ _ ec)) (.bl true)
    · have e2 := trues hall
      subst e2
      walk_at "go"
      refine go_all (SqL.of eD) ?_
      rw [trues_all]
      exact q _
end
end T
set_option Elab.async false
set_option maxRecDepth 100000
set_option maxHeartbeats 4000000
namespace T
open PySem L2 Mv
open He (ga ma)
theorem all_mk {P : Program} {w : World} {K : PySem.W.Frag} {h : Heap} {mg : Str → Option Value} {fa : Addr} (X : K.In h) (Gn : h.Ns mainGlobals mg) (hfa : mg "law" = some (.ref fa))
    {CR : Addr} {fo_mul : Option Value} {ro_mul : Option Value} {g_rmul : Addr} {C : Addr} {t_EAST : Tok} {t_NORTH : Tok} {t_FEWEST_PARTS : Tok} {t_MOST_PARTS : Tok} {t_MOST_FINE : Tok} {AX : Addr} {t1AX : Tok} {t2AX : Tok} {nAX : Nat} {sAX : Array (Option Value)} {u1C : Tok} {u2C : Tok} {u3C : Tok} {CM : Addr} {CG : Addr} {KD : Addr} {t1KD : Tok} {t2KD : Tok} {nKD : Nat} {sKD : Array (Option Value)} {f_law : Addr} {fd_law : FuncData} {f_pot : Addr} {fd_pot : FuncData} {f_right : Addr} {fd_right : FuncData} {f_draw : Addr} {fd_draw : FuncData} {f_lmodel : Addr} {fd_lmodel : FuncData} {f_pick : Addr} {fd_pick : FuncData} {f_rounds : Addr} {fd_rounds : FuncData} {f_llength : Addr} {fd_llength : FuncData} {f_lreach : Addr} {fd_lreach : FuncData} {f_lgauge : Addr} {fd_lgauge : FuncData} {f_passed : Addr} {fd_passed : FuncData} {f_rinit : Addr} {fd_rinit : FuncData} {f_isint : Addr} {fd_isint : FuncData} {f_compart : Addr} {fd_compart : FuncData} {f_larea : Addr} {fd_larea : FuncData} {f_lplan : Addr} {fd_lplan : FuncData} {f_init : Addr} {fd_init : FuncData} {f_wantrounds : Addr} {fd_wantrounds : FuncData} {f_isround : Addr} {fd_isround : FuncData} {f_islist : Addr} {fd_islist : FuncData} {f_iscut : Addr} {fd_iscut : FuncData} {f_isaxis : Addr} {fd_isaxis : FuncData} {f_areparts : Addr} {fd_areparts : FuncData} {f_along1 : Addr} {fd_along1 : FuncData} {f_prod : Addr} {fd_prod : FuncData} {f_minit : Addr} {fd_minit : FuncData} {f_wantplan : Addr} {fd_wantplan : FuncData} {f_wantlen : Addr} {fd_wantlen : FuncData} {f_islen : Addr} {fd_islen : FuncData} {f_isnum : Addr} {fd_isnum : FuncData} {f_asratio : Addr} {fd_asratio : FuncData} {p_rsign : Addr} {f_rsign : Addr} {r_rsign : List Value} {fd_rsign : FuncData} {f_areaxes : Addr} {fd_areaxes : FuncData} {f_ginit : Addr} {fd_ginit : FuncData} {f_wantmap : Addr} {fd_wantmap : FuncData} {f_isreach : Addr} {fd_isreach : FuncData} {f_rbelow : Addr} {fd_rbelow : FuncData} {f_wantnum : Addr} {fd_wantnum : FuncData} {f_wantkind : Addr} {fd_wantkind : FuncData} {f_lcounts : Addr} {fd_lcounts : FuncData} {f_ltop : Addr} {fd_ltop : FuncData} {f_ltopat : Addr} {fd_ltopat : FuncData} {f_lless : Addr} {fd_lless : FuncData} {f_ltold : Addr} {fd_ltold : FuncData} {f_req : Addr} {fd_req : FuncData} {f_ggreat : Addr} {fd_ggreat : FuncData} {f_wantfine : Addr} {fd_wantfine : FuncData} {f_count : Addr} {fd_count : FuncData} {f_gat : Addr} {fd_gat : FuncData} {f_gfound : Addr} {fd_gfound : FuncData} {f_msides : Addr} {fd_msides : FuncData} {f_pcounts : Addr} {fd_pcounts : FuncData} {f_rover : Addr} {fd_rover : FuncData} {f_rmul : Addr} {fd_rmul : FuncData}
    (hn : PySem.W.specialIn K (.builtin "object.__class__") "__get__" = some (some (.builtin "getset_descriptor.__get__")))
    (htk : PySem.W.takesIn K (.builtin "object.__class__") = some true)
    (z_len : PySem.W.nsIn K mainGlobals "len" = some none)
    (z_abs : PySem.W.nsIn K mainGlobals "abs" = some none)
    (z_max : PySem.W.nsIn K mainGlobals "max" = some none)
    (z_min : PySem.W.nsIn K mainGlobals "min" = some none)
    (z_int : PySem.W.nsIn K mainGlobals "int" = some none)
    (z_bool : PySem.W.nsIn K mainGlobals "bool" = some none)
    (z_str : PySem.W.nsIn K mainGlobals "str" = some none)
    (z_repr : PySem.W.nsIn K mainGlobals "repr" = some none)
    (z_all : PySem.W.nsIn K mainGlobals "all" = some none)
    (z_any : PySem.W.nsIn K mainGlobals "any" = some none)
    (z_range : PySem.W.nsIn K mainGlobals "range" = some none)
    (z_divmod : PySem.W.nsIn K mainGlobals "divmod" = some none)
    (z_isinstance : PySem.W.nsIn K mainGlobals "isinstance" = some none)
    (z_list : PySem.W.nsIn K mainGlobals "list" = some none)
    (z_tuple : PySem.W.nsIn K mainGlobals "tuple" = some none)
    (z_dict : PySem.W.nsIn K mainGlobals "dict" = some none)
    (z_enumerate : PySem.W.nsIn K mainGlobals "enumerate" = some none)
    (z_zip : PySem.W.nsIn K mainGlobals "zip" = some none)
    (z_sorted : PySem.W.nsIn K mainGlobals "sorted" = some none)
    (z_sum : PySem.W.nsIn K mainGlobals "sum" = some none)
    (z_type : PySem.W.nsIn K mainGlobals "type" = some none)
    (g_CR : PySem.W.nsIn K mainGlobals "Ratio" = some (some (.ref CR)))
    (pg_CR : PySem.W.plainGet K CR Str.empty = true)
    (hd_CR : PySem.W.hasDictIn K CR = true)
    (po_CR : PySem.W.plainOver K CR = true)
    (sa_CR : PySem.W.findIn K (.ref CR) "__setattr__" = some (some (.builtin "object.__setattr__")))
    (mk_CR : PySem.W.makesIn K CR = true)
    (kc_CR : PySem.W.keepIn K (.ref CR) = true)
    (ha_CR : PySem.W.findIn K (.ref CR) "__class__" = some (some (.builtin "object.__class__")))
    (hm_CR : PySem.W.mroIn K CR (.type "object") = some true)
    (me_CR : PySem.W.kitOne K (.ref CR) (.ref CR) = some true)
    (ne_CR : PySem.W.findIn K (.ref CR) "__ne__" = some (some (.builtin "object.__ne__")))
    (n_own_top : PySem.W.findIn K (.ref CR) "own_top" = some none)
    (n_own_bottom : PySem.W.findIn K (.ref CR) "own_bottom" = some none)
    (ki_CR : PySem.W.kitOne K (.ref CR) (.type "int") = some false)
    (kb_CR : PySem.W.kitOne K (.ref CR) (.type "bool") = some false)
    (oi_CR : PySem.W.kitOne K (.type "int") (.ref CR) = some false)
    (bi1 : PySem.W.findIn K (.ref CR) "__rmul__" = some (some (.ref g_rmul)))
    (bi2 : PySem.W.findIn K (.type "int") "__mul__" = some fo_mul)
    (bi3 : PySem.W.findIn K (.type "int") "__rmul__" = some ro_mul)
    (bi4 : PySem.W.subIn K (.type "int") (.ref CR) = some false)
    (g_C : PySem.W.nsIn K mainGlobals "Plan" = some (some (.ref C)))
    (pg_C : PySem.W.plainGet K C Str.empty = true)
    (hd_C : PySem.W.hasDictIn K C = true)
    (po_C : PySem.W.plainOver K C = true)
    (sa_C : PySem.W.findIn K (.ref C) "__setattr__" = some (some (.builtin "object.__setattr__")))
    (mk_C : PySem.W.makesIn K C = true)
    (kc_C : PySem.W.keepIn K (.ref C) = true)
    (ha_C : PySem.W.findIn K (.ref C) "__class__" = some (some (.builtin "object.__class__")))
    (hm_C : PySem.W.mroIn K C (.type "object") = some true)
    (me_C : PySem.W.kitOne K (.ref C) (.ref C) = some true)
    (ne_C : PySem.W.findIn K (.ref C) "__ne__" = some (some (.builtin "object.__ne__")))
    (n_own_rounds : PySem.W.findIn K (.ref C) "own_rounds" = some none)
    (n_own_parts : PySem.W.findIn K (.ref C) "own_parts" = some none)
    (n_own_growth : PySem.W.findIn K (.ref C) "own_growth" = some none)
    (v_EAST : PySem.W.nsIn K mainGlobals "EAST" = some (some (.str "east" t_EAST)))
    (v_NORTH : PySem.W.nsIn K mainGlobals "NORTH" = some (some (.str "north" t_NORTH)))
    (v_FEWEST_PARTS : PySem.W.nsIn K mainGlobals "FEWEST_PARTS" = some (some (.int 2 t_FEWEST_PARTS)))
    (v_MOST_PARTS : PySem.W.nsIn K mainGlobals "MOST_PARTS" = some (some (.int 4 t_MOST_PARTS)))
    (v_MOST_FINE : PySem.W.nsIn K mainGlobals "MOST_FINE" = some (some (.int 1000 t_MOST_FINE)))
    (v_AXES : PySem.W.nsIn K mainGlobals "AXES" = some (some (.ref AX)))
    (l_AX : K.lookup AX = some ⟨.type "tuple", none, .seq #[.str "east" t1AX, .str "north" t2AX] nAX, sAX⟩)
    (t_C : PySem.W.typeIn K (.ref C) = some (.type "type"))
    (ga_C : PySem.W.specialIn K (.ref C) "__getattribute__" = some (some (.builtin "type.__getattribute__")))
    (rd_C : PySem.W.readsIn K C (.type "type") = true)
    (cv_MOST_ROUNDS : PySem.W.findCls K (.ref C) (.type "type") "MOST_ROUNDS" = some (.val (.int 3 u1C)))
    (cv_MOST_CUTS : PySem.W.findCls K (.ref C) (.type "type") "MOST_CUTS" = some (.val (.int 5 u2C)))
    (cv_MOST_SIGNS : PySem.W.findCls K (.ref C) (.type "type") "MOST_SIGNS" = some (.val (.int 32 u3C)))
    (g_CM : PySem.W.nsIn K mainGlobals "Map" = some (some (.ref CM)))
    (pg_CM : PySem.W.plainGet K CM Str.empty = true)
    (hd_CM : PySem.W.hasDictIn K CM = true)
    (po_CM : PySem.W.plainOver K CM = true)
    (sa_CM : PySem.W.findIn K (.ref CM) "__setattr__" = some (some (.builtin "object.__setattr__")))
    (mk_CM : PySem.W.makesIn K CM = true)
    (kc_CM : PySem.W.keepIn K (.ref CM) = true)
    (ha_CM : PySem.W.findIn K (.ref CM) "__class__" = some (some (.builtin "object.__class__")))
    (hm_CM : PySem.W.mroIn K CM (.type "object") = some true)
    (me_CM : PySem.W.kitOne K (.ref CM) (.ref CM) = some true)
    (ne_CM : PySem.W.findIn K (.ref CM) "__ne__" = some (some (.builtin "object.__ne__")))
    (nM_own_plan : PySem.W.findIn K (.ref CM) "own_plan" = some none)
    (nM_own_lengths : PySem.W.findIn K (.ref CM) "own_lengths" = some none)
    (nM_own_closed : PySem.W.findIn K (.ref CM) "own_closed" = some none)
    (g_CG : PySem.W.nsIn K mainGlobals "Gauge" = some (some (.ref CG)))
    (pg_CG : PySem.W.plainGet K CG Str.empty = true)
    (hd_CG : PySem.W.hasDictIn K CG = true)
    (po_CG : PySem.W.plainOver K CG = true)
    (sa_CG : PySem.W.findIn K (.ref CG) "__setattr__" = some (some (.builtin "object.__setattr__")))
    (mk_CG : PySem.W.makesIn K CG = true)
    (kc_CG : PySem.W.keepIn K (.ref CG) = true)
    (ha_CG : PySem.W.findIn K (.ref CG) "__class__" = some (some (.builtin "object.__class__")))
    (hm_CG : PySem.W.mroIn K CG (.type "object") = some true)
    (me_CG : PySem.W.kitOne K (.ref CG) (.ref CG) = some true)
    (ne_CG : PySem.W.findIn K (.ref CG) "__ne__" = some (some (.builtin "object.__ne__")))
    (nG_own_area : PySem.W.findIn K (.ref CG) "own_area" = some none)
    (nG_own_reaches : PySem.W.findIn K (.ref CG) "own_reaches" = some none)
    (nG_own_kind : PySem.W.findIn K (.ref CG) "own_kind" = some none)
    (nG_own_sides : PySem.W.findIn K (.ref CG) "own_sides" = some none)
    (nG_own_bounds : PySem.W.findIn K (.ref CG) "own_bounds" = some none)
    (v_KINDS : PySem.W.nsIn K mainGlobals "KINDS" = some (some (.ref KD)))
    (l_KD : K.lookup KD = some ⟨.type "tuple", none, .seq #[.str "box" t1KD, .str "sum" t2KD] nKD, sKD⟩)
    (a_law : PySem.W.nsIn K mainGlobals "law" = some (some (.ref f_law)))
    (F_law : Df K "law" "law" s_law [] f_law fd_law)
    (a_pot : PySem.W.nsIn K mainGlobals "_law_pot" = some (some (.ref f_pot)))
    (F_pot : Df K "_law_pot" "_law_pot" s_pot [] f_pot fd_pot)
    (a_right : PySem.W.nsIn K mainGlobals "_law_right" = some (some (.ref f_right)))
    (F_right : Df K "_law_right" "_law_right" s_right [] f_right fd_right)
    (a_draw : PySem.W.nsIn K mainGlobals "_law_draw" = some (some (.ref f_draw)))
    (F_draw : Df K "_law_draw" "_law_draw" s_draw [] f_draw fd_draw)
    (a_lmodel : PySem.W.nsIn K mainGlobals "_law_model" = some (some (.ref f_lmodel)))
    (F_lmodel : Df K "_law_model" "_law_model" s_lmodel [] f_lmodel fd_lmodel)
    (a_pick : PySem.W.nsIn K mainGlobals "_law_pick" = some (some (.ref f_pick)))
    (F_pick : Df K "_law_pick" "_law_pick" s_pick [] f_pick fd_pick)
    (a_rounds : PySem.W.nsIn K mainGlobals "_law_rounds" = some (some (.ref f_rounds)))
    (F_rounds : Df K "_law_rounds" "_law_rounds" s_rounds [] f_rounds fd_rounds)
    (a_llength : PySem.W.nsIn K mainGlobals "_law_length" = some (some (.ref f_llength)))
    (F_llength : Df K "_law_length" "_law_length" s_llength [] f_llength fd_llength)
    (a_lreach : PySem.W.nsIn K mainGlobals "_law_reach" = some (some (.ref f_lreach)))
    (F_lreach : Df K "_law_reach" "_law_reach" s_lreach [] f_lreach fd_lreach)
    (a_lgauge : PySem.W.nsIn K mainGlobals "_law_gauge" = some (some (.ref f_lgauge)))
    (F_lgauge : Df K "_law_gauge" "_law_gauge" s_lgauge [] f_lgauge fd_lgauge)
    (a_passed : PySem.W.nsIn K mainGlobals "_law_passed" = some (some (.ref f_passed)))
    (F_passed : Df K "_law_passed" "_law_passed" s_passed [] f_passed fd_passed)
    (a_rinit : PySem.W.findIn K (.ref CR) "__init__" = some (some (.ref f_rinit)))
    (i_rinit : PySem.W.isFn K (.ref f_rinit) = true)
    (F_rinit : Df K "__init__" "Ratio.__init__" s_rinit [.int 1] f_rinit fd_rinit)
    (a_isint : PySem.W.nsIn K mainGlobals "is_integer" = some (some (.ref f_isint)))
    (F_isint : Df K "is_integer" "is_integer" s_isint [] f_isint fd_isint)
    (a_compart : PySem.W.nsIn K mainGlobals "common_part" = some (some (.ref f_compart)))
    (F_compart : Df K "common_part" "common_part" s_compart [] f_compart fd_compart)
    (a_larea : PySem.W.nsIn K mainGlobals "_law_area" = some (some (.ref f_larea)))
    (F_larea : Df K "_law_area" "_law_area" s_larea [] f_larea fd_larea)
    (a_lplan : PySem.W.nsIn K mainGlobals "_law_plan" = some (some (.ref f_lplan)))
    (F_lplan : Df K "_law_plan" "_law_plan" s_lplan [] f_lplan fd_lplan)
    (a_init : PySem.W.findIn K (.ref C) "__init__" = some (some (.ref f_init)))
    (i_init : PySem.W.isFn K (.ref f_init) = true)
    (F_init : Df K "__init__" "Plan.__init__" s_init [] f_init fd_init)
    (a_wantrounds : PySem.W.nsIn K mainGlobals "want_rounds" = some (some (.ref f_wantrounds)))
    (F_wantrounds : Df K "want_rounds" "want_rounds" s_wantrounds [] f_wantrounds fd_wantrounds)
    (a_isround : PySem.W.nsIn K mainGlobals "is_round" = some (some (.ref f_isround)))
    (F_isround : Df K "is_round" "is_round" s_isround [] f_isround fd_isround)
    (a_islist : PySem.W.nsIn K mainGlobals "is_list" = some (some (.ref f_islist)))
    (F_islist : Df K "is_list" "is_list" s_islist [] f_islist fd_islist)
    (a_iscut : PySem.W.nsIn K mainGlobals "is_cut" = some (some (.ref f_iscut)))
    (F_iscut : Df K "is_cut" "is_cut" s_iscut [] f_iscut fd_iscut)
    (a_isaxis : PySem.W.nsIn K mainGlobals "is_axis" = some (some (.ref f_isaxis)))
    (F_isaxis : Df K "is_axis" "is_axis" s_isaxis [] f_isaxis fd_isaxis)
    (a_areparts : PySem.W.nsIn K mainGlobals "are_parts" = some (some (.ref f_areparts)))
    (F_areparts : Df K "are_parts" "are_parts" s_areparts [] f_areparts fd_areparts)
    (a_along1 : PySem.W.nsIn K mainGlobals "parts_along" = some (some (.ref f_along1)))
    (F_along1 : Df K "parts_along" "parts_along" s_along1 [] f_along1 fd_along1)
    (a_prod : PySem.W.findIn K (.ref C) "product_of" = some (some (.ref f_prod)))
    (i_prod : PySem.W.isFn K (.ref f_prod) = true)
    (F_prod : Df K "product_of" "Plan.product_of" s_prod [] f_prod fd_prod)
    (a_minit : PySem.W.findIn K (.ref CM) "__init__" = some (some (.ref f_minit)))
    (i_minit : PySem.W.isFn K (.ref f_minit) = true)
    (F_minit : Df K "__init__" "Map.__init__" s_minit [] f_minit fd_minit)
    (a_wantplan : PySem.W.nsIn K mainGlobals "want_plan" = some (some (.ref f_wantplan)))
    (F_wantplan : Df K "want_plan" "want_plan" s_wantplan [] f_wantplan fd_wantplan)
    (a_wantlen : PySem.W.nsIn K mainGlobals "want_length" = some (some (.ref f_wantlen)))
    (F_wantlen : Df K "want_length" "want_length" s_wantlen [] f_wantlen fd_wantlen)
    (a_islen : PySem.W.nsIn K mainGlobals "is_length" = some (some (.ref f_islen)))
    (F_islen : Df K "is_length" "is_length" s_islen [] f_islen fd_islen)
    (a_isnum : PySem.W.nsIn K mainGlobals "is_number" = some (some (.ref f_isnum)))
    (F_isnum : Df K "is_number" "is_number" s_isnum [] f_isnum fd_isnum)
    (a_asratio : PySem.W.nsIn K mainGlobals "as_ratio" = some (some (.ref f_asratio)))
    (F_asratio : Df K "as_ratio" "as_ratio" s_asratio [] f_asratio fd_asratio)
    (a_rsign : PySem.W.findIn K (.ref CR) "sign" = some (some (.ref p_rsign)))
    (spx_rsign : PySem.W.specialIn K (.ref p_rsign) "__get__" = some (some (.builtin "property.__get__")))
    (t_rsign : PySem.W.takesIn K (.ref p_rsign) = some true)
    (e_rsign : PySem.W.recIn K p_rsign "property" = some (.ref f_rsign :: r_rsign))
    (F_rsign : Df K "sign" "Ratio.sign" s_rsign [] f_rsign fd_rsign)
    (a_areaxes : PySem.W.nsIn K mainGlobals "are_axes" = some (some (.ref f_areaxes)))
    (F_areaxes : Df K "are_axes" "are_axes" s_areaxes [] f_areaxes fd_areaxes)
    (a_ginit : PySem.W.findIn K (.ref CG) "__init__" = some (some (.ref f_ginit)))
    (i_ginit : PySem.W.isFn K (.ref f_ginit) = true)
    (F_ginit : Df K "__init__" "Gauge.__init__" s_ginit [] f_ginit fd_ginit)
    (a_wantmap : PySem.W.nsIn K mainGlobals "want_map" = some (some (.ref f_wantmap)))
    (F_wantmap : Df K "want_map" "want_map" s_wantmap [] f_wantmap fd_wantmap)
    (a_isreach : PySem.W.nsIn K mainGlobals "is_reach" = some (some (.ref f_isreach)))
    (F_isreach : Df K "is_reach" "is_reach" s_isreach [] f_isreach fd_isreach)
    (a_rbelow : PySem.W.findIn K (.ref CR) "is_below" = some (some (.ref f_rbelow)))
    (i_rbelow : PySem.W.isFn K (.ref f_rbelow) = true)
    (F_rbelow : Df K "is_below" "Ratio.is_below" s_rbelow [] f_rbelow fd_rbelow)
    (a_wantnum : PySem.W.nsIn K mainGlobals "want_number" = some (some (.ref f_wantnum)))
    (F_wantnum : Df K "want_number" "want_number" s_wantnum [] f_wantnum fd_wantnum)
    (a_wantkind : PySem.W.nsIn K mainGlobals "want_kind" = some (some (.ref f_wantkind)))
    (F_wantkind : Df K "want_kind" "want_kind" s_wantkind [] f_wantkind fd_wantkind)
    (a_lcounts : PySem.W.nsIn K mainGlobals "_law_counts" = some (some (.ref f_lcounts)))
    (F_lcounts : Df K "_law_counts" "_law_counts" s_lcounts [] f_lcounts fd_lcounts)
    (a_ltop : PySem.W.nsIn K mainGlobals "_law_top" = some (some (.ref f_ltop)))
    (F_ltop : Df K "_law_top" "_law_top" s_ltop [] f_ltop fd_ltop)
    (a_ltopat : PySem.W.nsIn K mainGlobals "_law_top_at" = some (some (.ref f_ltopat)))
    (F_ltopat : Df K "_law_top_at" "_law_top_at" s_ltopat [] f_ltopat fd_ltopat)
    (a_lless : PySem.W.nsIn K mainGlobals "_law_is_less" = some (some (.ref f_lless)))
    (F_lless : Df K "_law_is_less" "_law_is_less" s_lless [] f_lless fd_lless)
    (a_ltold : PySem.W.nsIn K mainGlobals "_law_is_told" = some (some (.ref f_ltold)))
    (F_ltold : Df K "_law_is_told" "_law_is_told" s_ltold [] f_ltold fd_ltold)
    (a_req : PySem.W.findIn K (.ref CR) "__eq__" = some (some (.ref f_req)))
    (i_req : PySem.W.isFn K (.ref f_req) = true)
    (F_req : Df K "__eq__" "Ratio.__eq__" s_req [] f_req fd_req)
    (a_ggreat : PySem.W.findIn K (.ref CG) "greatest" = some (some (.ref f_ggreat)))
    (i_ggreat : PySem.W.isFn K (.ref f_ggreat) = true)
    (F_ggreat : Df K "greatest" "Gauge.greatest" s_ggreat [] f_ggreat fd_ggreat)
    (a_wantfine : PySem.W.nsIn K mainGlobals "want_fineness" = some (some (.ref f_wantfine)))
    (F_wantfine : Df K "want_fineness" "want_fineness" s_wantfine [] f_wantfine fd_wantfine)
    (a_count : PySem.W.nsIn K mainGlobals "is_count" = some (some (.ref f_count)))
    (F_count : Df K "is_count" "is_count" s_count [] f_count fd_count)
    (a_gat : PySem.W.findIn K (.ref CG) "bound_at" = some (some (.ref f_gat)))
    (i_gat : PySem.W.isFn K (.ref f_gat) = true)
    (F_gat : Df K "bound_at" "Gauge.bound_at" s_gat [] f_gat fd_gat)
    (a_gfound : PySem.W.findIn K (.ref CG) "bound_found" = some (some (.ref f_gfound)))
    (i_gfound : PySem.W.isFn K (.ref f_gfound) = true)
    (F_gfound : Df K "bound_found" "Gauge.bound_found" s_gfound [] f_gfound fd_gfound)
    (a_msides : PySem.W.findIn K (.ref CM) "sides" = some (some (.ref f_msides)))
    (i_msides : PySem.W.isFn K (.ref f_msides) = true)
    (F_msides : Df K "sides" "Map.sides" s_msides [] f_msides fd_msides)
    (a_pcounts : PySem.W.findIn K (.ref C) "counts" = some (some (.ref f_pcounts)))
    (i_pcounts : PySem.W.isFn K (.ref f_pcounts) = true)
    (F_pcounts : Df K "counts" "Plan.counts" s_pcounts [] f_pcounts fd_pcounts)
    (a_rover : PySem.W.findIn K (.ref CR) "over" = some (some (.ref f_rover)))
    (i_rover : PySem.W.isFn K (.ref f_rover) = true)
    (F_rover : Df K "over" "Ratio.over" s_rover [] f_rover fd_rover)
    (a_rmul : PySem.W.findIn K (.ref CR) "__mul__" = some (some (.ref f_rmul)))
    (i_rmul : PySem.W.isFn K (.ref f_rmul) = true)
    (F_rmul : Df K "__mul__" "Ratio.__mul__" s_rmul [] f_rmul fd_rmul)
    (sf_CR : PySem.W.selfFirst K CR = true)
    (nq_CR : PySem.W.noSeq K CR = true)
    (fi_rmul : PySem.W.fnIn K f_rmul = true) :
    ∃ fd : FuncData, (∀ (s : Shared) (v : Value), BindsTo s fd ⟨[v], []⟩ [("_law_script", v)]) ∧ ∀ base : Heap, K.In base → base.Ns mainGlobals mg → FnG P w K mg base 12 fa fd ["_law_script"] (sp_law K) := by
  have B : Blt mg := ⟨PySem.W.mg_none_of X Gn z_len, PySem.W.mg_none_of X Gn z_abs, PySem.W.mg_none_of X Gn z_max, PySem.W.mg_none_of X Gn z_min, PySem.W.mg_none_of X Gn z_int, PySem.W.mg_none_of X Gn z_bool, PySem.W.mg_none_of X Gn z_str, PySem.W.mg_none_of X Gn z_repr, PySem.W.mg_none_of X Gn z_all, PySem.W.mg_none_of X Gn z_any, PySem.W.mg_none_of X Gn z_range, PySem.W.mg_none_of X Gn z_divmod, PySem.W.mg_none_of X Gn z_isinstance, PySem.W.mg_none_of X Gn z_list, PySem.W.mg_none_of X Gn z_tuple, PySem.W.mg_none_of X Gn z_dict, PySem.W.mg_none_of X Gn z_enumerate, PySem.W.mg_none_of X Gn z_zip, PySem.W.mg_none_of X Gn z_sorted, PySem.W.mg_none_of X Gn z_sum, PySem.W.mg_none_of X Gn z_type⟩
  have I_CR : ClsI K CR := ⟨⟨pg_CR, hd_CR, po_CR, sa_CR⟩, ha_CR, hn, htk, hm_CR, me_CR, ne_CR⟩
  have GR : RtG K mg CR := ⟨I_CR, PySem.W.mg_of X Gn g_CR, n_own_top, n_own_bottom, ki_CR, kb_CR, oi_CR⟩
  have RI : BnI K CR .Mult := ⟨_, _, _, bi1, .inr ⟨_, rfl⟩, bi2, bi3, bi4⟩
  have I_C : ClsI K C := ⟨⟨pg_C, hd_C, po_C, sa_C⟩, ha_C, hn, htk, hm_C, me_C, ne_C⟩
  have G : PlG K mg C AX := ⟨I_C, PySem.W.mg_of X Gn g_C, n_own_rounds, n_own_parts, n_own_growth, ⟨_, PySem.W.mg_of X Gn v_EAST⟩, ⟨_, PySem.W.mg_of X Gn v_NORTH⟩, PySem.W.mg_of X Gn v_AXES, fun H => .inr ⟨_, _, _, l_AX, rfl, rfl, by show 2 ≤ sizeLine; decide, .cons ⟨_, rfl⟩ (.cons ⟨_, rfl⟩ .nil)⟩, ⟨_, l_AX, rfl, rfl⟩, ⟨_, PySem.W.mg_of X Gn v_FEWEST_PARTS⟩, ⟨_, PySem.W.mg_of X Gn v_MOST_PARTS⟩, ⟨_, PySem.W.mg_of X Gn v_MOST_FINE⟩, ⟨_, _, ⟨rd_C, ga_C⟩, ⟨cv_MOST_ROUNDS, ⟨_, rfl⟩⟩⟩, ⟨_, _, ⟨rd_C, ga_C⟩, ⟨cv_MOST_CUTS, ⟨_, rfl⟩⟩⟩, ⟨_, _, ⟨rd_C, ga_C⟩, ⟨cv_MOST_SIGNS, ⟨_, rfl⟩⟩⟩⟩
  have I_CM : ClsI K CM := ⟨⟨pg_CM, hd_CM, po_CM, sa_CM⟩, ha_CM, hn, htk, hm_CM, me_CM, ne_CM⟩
  have GM : MpG K mg CM := ⟨I_CM, PySem.W.mg_of X Gn g_CM, nM_own_plan, nM_own_lengths, nM_own_closed⟩
  have I_CG : ClsI K CG := ⟨⟨pg_CG, hd_CG, po_CG, sa_CG⟩, ha_CG, hn, htk, hm_CG, me_CG, ne_CG⟩
  have GG : GaG K mg CG := ⟨I_CG, PySem.W.mg_of X Gn g_CG, nG_own_area, nG_own_reaches, nG_own_kind, nG_own_sides, nG_own_bounds⟩
  have GK : KdG K mg KD := ⟨PySem.W.mg_of X Gn v_KINDS, fun H => .inr ⟨_, _, _, l_KD, rfl, rfl, by show 2 ≤ sizeLine; decide, .cons ⟨_, rfl⟩ (.cons ⟨_, rfl⟩ .nil)⟩⟩
  have P_rsign : PropOf K CR "sign" p_rsign f_rsign := ⟨a_rsign, spx_rsign, t_rsign, _, e_rsign⟩
  have b_pot := F_pot.bind (ps := ["_law_script", "_law_k"]) fun _ _ _ _ _ _ us hl => match us, hl with | [_, _], _ => rfl
  have b_right := F_right.bind (ps := ["_law_pot_here"]) fun _ _ _ _ _ _ us hl => match us, hl with | [_], _ => rfl
  have b_draw := F_draw.bind (ps := ["_law_pot_here", "_law_size"]) fun _ _ _ _ _ _ us hl => match us, hl with | [_, _], _ => rfl
  have b_lmodel := F_lmodel.bind (ps := ["_law_pot_here"]) fun _ _ _ _ _ _ us hl => match us, hl with | [_], _ => rfl
  have b_pick := F_pick.bind (ps := ["_law_pot_here", "_law_some"]) fun _ _ _ _ _ _ us hl => match us, hl with | [_, _], _ => rfl
  have b_rounds := F_rounds.bind (ps := ["_law_pot_here"]) fun _ _ _ _ _ _ us hl => match us, hl with | [_], _ => rfl
  have b_llength := F_llength.bind (ps := ["_law_pot_here"]) fun _ _ _ _ _ _ us hl => match us, hl with | [_], _ => rfl
  have b_lreach := F_lreach.bind (ps := ["_law_pot_here"]) fun _ _ _ _ _ _ us hl => match us, hl with | [_], _ => rfl
  have b_lgauge := F_lgauge.bind (ps := ["_law_pot_here", "_law_model_here"]) fun _ _ _ _ _ _ us hl => match us, hl with | [_, _], _ => rfl
  have b_passed := F_passed.bind (ps := ["_law_pot_here", "_law_pair"]) fun _ _ _ _ _ _ us hl => match us, hl with | [_, _], _ => rfl
  have b_isint := F_isint.bind (ps := ["value"]) fun _ _ _ _ _ _ us hl => match us, hl with | [_], _ => rfl
  have b_compart := F_compart.bind (ps := ["one", "other"]) fun _ _ _ _ _ _ us hl => match us, hl with | [_, _], _ => rfl
  have b_larea := F_larea.bind (ps := ["_law_pot_here", "_law_model_here"]) fun _ _ _ _ _ _ us hl => match us, hl with | [_, _], _ => rfl
  have b_lplan := F_lplan.bind (ps := ["_law_rounds_here"]) fun _ _ _ _ _ _ us hl => match us, hl with | [_], _ => rfl
  have b_wantrounds := F_wantrounds.bind (ps := ["rounds"]) fun _ _ _ _ _ _ us hl => match us, hl with | [_], _ => rfl
  have b_isround := F_isround.bind (ps := ["value"]) fun _ _ _ _ _ _ us hl => match us, hl with | [_], _ => rfl
  have b_islist := F_islist.bind (ps := ["value"]) fun _ _ _ _ _ _ us hl => match us, hl with | [_], _ => rfl
  have b_iscut := F_iscut.bind (ps := ["value"]) fun _ _ _ _ _ _ us hl => match us, hl with | [_], _ => rfl
  have b_isaxis := F_isaxis.bind (ps := ["value"]) fun _ _ _ _ _ _ us hl => match us, hl with | [_], _ => rfl
  have b_areparts := F_areparts.bind (ps := ["value"]) fun _ _ _ _ _ _ us hl => match us, hl with | [_], _ => rfl
  have b_along1 := F_along1.bind (ps := ["cuts", "axis"]) fun _ _ _ _ _ _ us hl => match us, hl with | [_, _], _ => rfl
  have b_prod := F_prod.bind (ps := ["self", "many"]) fun _ _ _ _ _ _ us hl => match us, hl with | [_, _], _ => rfl
  have b_wantplan := F_wantplan.bind (ps := ["value"]) fun _ _ _ _ _ _ us hl => match us, hl with | [_], _ => rfl
  have b_wantlen := F_wantlen.bind (ps := ["value"]) fun _ _ _ _ _ _ us hl => match us, hl with | [_], _ => rfl
  have b_islen := F_islen.bind (ps := ["value"]) fun _ _ _ _ _ _ us hl => match us, hl with | [_], _ => rfl
  have b_isnum := F_isnum.bind (ps := ["value"]) fun _ _ _ _ _ _ us hl => match us, hl with | [_], _ => rfl
  have b_asratio := F_asratio.bind (ps := ["number"]) fun _ _ _ _ _ _ us hl => match us, hl with | [_], _ => rfl
  have b_rsign := F_rsign.bind (ps := ["self"]) fun _ _ _ _ _ _ us hl => match us, hl with | [_], _ => rfl
  have b_areaxes := F_areaxes.bind (ps := ["value"]) fun _ _ _ _ _ _ us hl => match us, hl with | [_], _ => rfl
  have b_ginit := F_ginit.bind (ps := ["self", "area", "east", "north", "kind"]) fun _ _ _ _ _ _ us hl => match us, hl with | [_, _, _, _, _], _ => rfl
  have b_wantmap := F_wantmap.bind (ps := ["value"]) fun _ _ _ _ _ _ us hl => match us, hl with | [_], _ => rfl
  have b_isreach := F_isreach.bind (ps := ["value"]) fun _ _ _ _ _ _ us hl => match us, hl with | [_], _ => rfl
  have b_rbelow := F_rbelow.bind (ps := ["self", "other"]) fun _ _ _ _ _ _ us hl => match us, hl with | [_, _], _ => rfl
  have b_wantnum := F_wantnum.bind (ps := ["value"]) fun _ _ _ _ _ _ us hl => match us, hl with | [_], _ => rfl
  have b_wantkind := F_wantkind.bind (ps := ["value"]) fun _ _ _ _ _ _ us hl => match us, hl with | [_], _ => rfl
  have b_lcounts := F_lcounts.bind (ps := ["_law_rounds_here", "_law_many"]) fun _ _ _ _ _ _ us hl => match us, hl with | [_, _], _ => rfl
  have b_ltop := F_ltop.bind (ps := ["_law_model_here", "_law_deep"]) fun _ _ _ _ _ _ us hl => match us, hl with | [_, _], _ => rfl
  have b_ltopat := F_ltopat.bind (ps := ["_law_model_here", "_law_counts_here"]) fun _ _ _ _ _ _ us hl => match us, hl with | [_, _], _ => rfl
  have b_lless := F_lless.bind (ps := ["_law_one", "_law_other"]) fun _ _ _ _ _ _ us hl => match us, hl with | [_, _], _ => rfl
  have b_ltold := F_ltold.bind (ps := ["_law_told", "_law_due"]) fun _ _ _ _ _ _ us hl => match us, hl with | [_, _], _ => rfl
  have b_req := F_req.bind (ps := ["self", "other"]) fun _ _ _ _ _ _ us hl => match us, hl with | [_, _], _ => rfl
  have b_ggreat := F_ggreat.bind (ps := ["self", "f"]) fun _ _ _ _ _ _ us hl => match us, hl with | [_, _], _ => rfl
  have b_wantfine := F_wantfine.bind (ps := ["value"]) fun _ _ _ _ _ _ us hl => match us, hl with | [_], _ => rfl
  have b_count := F_count.bind (ps := ["value"]) fun _ _ _ _ _ _ us hl => match us, hl with | [_], _ => rfl
  have b_gat := F_gat.bind (ps := ["self", "f"]) fun _ _ _ _ _ _ us hl => match us, hl with | [_, _], _ => rfl
  have b_gfound := F_gfound.bind (ps := ["self", "f"]) fun _ _ _ _ _ _ us hl => match us, hl with | [_, _], _ => rfl
  have b_msides := F_msides.bind (ps := ["self", "f"]) fun _ _ _ _ _ _ us hl => match us, hl with | [_, _], _ => rfl
  have b_pcounts := F_pcounts.bind (ps := ["self", "f"]) fun _ _ _ _ _ _ us hl => match us, hl with | [_, _], _ => rfl
  have b_rover := F_rover.bind (ps := ["self", "other"]) fun _ _ _ _ _ _ us hl => match us, hl with | [_, _], _ => rfl
  have b_rmul := F_rmul.bind (ps := ["self", "other"]) fun _ _ _ _ _ _ us hl => match us, hl with | [_, _], _ => rfl
  have e := hfa.symm.trans (PySem.W.mg_of X Gn a_law)
  cases e
  have hb := FunD.bindsA (ps := ["_law_script"]) F_law fun _ _ _ _ _ _ us hl => match us, hl with | [_], _ => rfl
  refine ⟨fd_law, fun s v => hb s [v] rfl, fun base _ _ => ?_⟩
  have h0_cPot : Ca P w K mg base 1 "_law_pot" (sp_pot K) [] := ⟨_, _, _, _, ok_pot F_pot B, PySem.W.mg_of X Gn a_pot, F_pot.kp, b_pot, .nil⟩
  have h2_cDr : Ca P w K mg base 1 "_law_draw" sp_draw [] := ⟨_, _, _, _, ok_draw F_draw B, PySem.W.mg_of X Gn a_draw, F_draw.kp, b_draw, .nil⟩
  have h4_cPk : Ca P w K mg base 2 "_law_pick" (sp_pick K) [] := ⟨_, _, _, _, ok_pick F_pick B h2_cDr, PySem.W.mg_of X Gn a_pick, F_pick.kp, b_pick, .nil⟩
  have h6_cRo : Ca P w K mg base 3 "_law_rounds" (sp_rounds K) [] := ⟨_, _, _, _, ok_rounds F_rounds B h2_cDr h4_cPk, PySem.W.mg_of X Gn a_rounds, F_rounds.kp, b_rounds, .nil⟩
  have h8_cLl : Ca P w K mg base 3 "_law_length" (sp_llength K) [] := ⟨_, _, _, _, ok_llength F_llength B h2_cDr h4_cPk, PySem.W.mg_of X Gn a_llength, F_llength.kp, b_llength, .nil⟩
  have h10_cLr : Ca P w K mg base 3 "_law_reach" (sp_lreach K) [] := ⟨_, _, _, _, ok_lreach F_lreach B h2_cDr h4_cPk, PySem.W.mg_of X Gn a_lreach, F_lreach.kp, b_lreach, .nil⟩
  have h4_cMo : Ca P w K mg base 4 "_law_model" (sp_lmodel K) [] := ⟨_, _, _, _, ok_lmodel F_lmodel B h2_cDr h4_cPk h6_cRo h8_cLl h10_cLr, PySem.W.mg_of X Gn a_lmodel, F_lmodel.kp, b_lmodel, .nil⟩
  have h14_cI : Ca P w K mg base 1 "is_integer" (sp_isint K) [] := ⟨_, _, _, _, ok_isint F_isint B, PySem.W.mg_of X Gn a_isint, F_isint.kp, b_isint, .nil⟩
  have h16_cCp : Ca P w K mg base 1 "common_part" sp_compart [] := ⟨_, _, _, _, ok_compart F_compart , PySem.W.mg_of X Gn a_compart, F_compart.kp, b_compart, .nil⟩
  have h14_cRt : Ma P w K mg base 2 "Ratio" CR (sp_rinit CR) [] := (by obtain ⟨ds, vs, bs⟩ := rinit_b2 F_rinit; exact ⟨⟨_, _, _, _, ⟨mk_CR, a_rinit, i_rinit, kc_CR⟩, ok_rinit F_rinit B GR h14_cI h16_cCp, GR.mgC, bs, vs⟩⟩)
  have h14_cPs : Ca P w K mg base 4 "_law_passed" (sp_passed K CR) [] := ⟨_, _, _, _, ok_passed F_passed B h2_cDr h14_cRt, PySem.W.mg_of X Gn a_passed, F_passed.kp, b_passed, .nil⟩
  have h22_cL : Ca P w K mg base 1 "is_list" (sp_islist K) [] := ⟨_, _, _, _, ok_islist F_islist B, PySem.W.mg_of X Gn a_islist, F_islist.kp, b_islist, .nil⟩
  have h24_cA : Ca P w K mg base 1 "is_axis" sp_isaxis [] := ⟨_, _, _, _, ok_isaxis F_isaxis B G, PySem.W.mg_of X Gn a_isaxis, F_isaxis.kp, b_isaxis, .nil⟩
  have h26_cP : Ca P w K mg base 2 "are_parts" sp_areparts [] := ⟨_, _, _, _, ok_areparts F_areparts G h14_cI, PySem.W.mg_of X Gn a_areparts, F_areparts.kp, b_areparts, .nil⟩
  have h24_cC : Ca P w K mg base 3 "is_cut" (sp_iscut K) [] := ⟨_, _, _, _, ok_iscut F_iscut B h24_cA h26_cP, PySem.W.mg_of X Gn a_iscut, F_iscut.kp, b_iscut, .nil⟩
  have h22_cR : Ca P w K mg base 4 "is_round" (sp_isround K) [] := ⟨_, _, _, _, ok_isround F_isround B G h22_cL h24_cC, PySem.W.mg_of X Gn a_isround, F_isround.kp, b_isround, .nil⟩
  have h32_c1 : Ca P w K mg base 1 "parts_along" (sp_along1 K) [] := ⟨_, _, _, _, ok_along1 F_along1 , PySem.W.mg_of X Gn a_along1, F_along1.kp, b_along1, .nil⟩
  have h22_cWR : Ca P w K mg base 5 "want_rounds" (sp_wantrounds K) [] := ⟨_, _, _, _, ok_wantrounds F_wantrounds B G h22_cR h32_c1, PySem.W.mg_of X Gn a_wantrounds, F_wantrounds.kp, b_wantrounds, .nil⟩
  have h36_cPr : Me P w K mg base 1 C "product_of" (sp_prod K C) [] := ⟨_, _, _, _, I_C.cl, ⟨a_prod, i_prod, F_prod.kp⟩, ok_prod F_prod B G, b_prod, .nil⟩
  have h22_cPl : MaR P w K mg base 6 "Plan" C (spMk K C) := ⟨f_init, ⟨mk_C, a_init, i_init, kc_C⟩, ok_init F_init B G h22_cWR h32_c1 h36_cPr, G.mgC⟩
  have h22_cLp : Ca P w K mg base 8 "_law_plan" (sp_lplan K C) [] := ⟨_, _, _, _, ok_lplan F_lplan B h22_cPl, PySem.W.mg_of X Gn a_lplan, F_lplan.kp, b_lplan, .nil⟩
  have h42_cWpl : Ca P w K mg base 1 "want_plan" (sp_wantplan K C) [] := ⟨_, _, _, _, ok_wantplan F_wantplan B G, PySem.W.mg_of X Gn a_wantplan, F_wantplan.kp, b_wantplan, .nil⟩
  have h44_cNum : Ca P w K mg base 2 "is_number" (sp_isnum CR) [] := ⟨_, _, _, _, ok_isnum F_isnum B GR h14_cI, PySem.W.mg_of X Gn a_isnum, F_isnum.kp, b_isnum, .nil⟩
  have h46_cRt1 : Ma P w K mg base 2 "Ratio" CR (sp_rinit CR) [.int 1] := (by obtain ⟨ds, vs, bs⟩ := rinit_b1 F_rinit; exact ⟨⟨_, _, _, _, ⟨mk_CR, a_rinit, i_rinit, kc_CR⟩, ok_rinit F_rinit B GR h14_cI h16_cCp, GR.mgC, bs, vs⟩⟩)
  have h46_cAs : Ca P w K mg base 4 "as_ratio" (sp_asratio CR) [] := ⟨_, _, _, _, ok_asratio F_asratio B GR h46_cRt1, PySem.W.mg_of X Gn a_asratio, F_asratio.kp, b_asratio, .nil⟩
  have h49_cSgn : Pr P w K mg base 1 CR "sign" (sp_rsign CR) := ⟨_, _, _, _, I_CR.cl, P_rsign, ok_rsign F_rsign B GR, b_rsign⟩
  have h44_cIl : Ca P w K mg base 5 "is_length" (sp_islen CR) [] := ⟨_, _, _, _, ok_islen F_islen GR h44_cNum h46_cAs h49_cSgn, PySem.W.mg_of X Gn a_islen, F_islen.kp, b_islen, .nil⟩
  have h44_cWl : Ca P w K mg base 6 "want_length" (sp_wantlen CR) [] := ⟨_, _, _, _, ok_wantlen F_wantlen h44_cIl, PySem.W.mg_of X Gn a_wantlen, F_wantlen.kp, b_wantlen, .nil⟩
  have h55_cAx : Ca P w K mg base 2 "are_axes" (sp_areaxes K) [] := ⟨_, _, _, _, ok_areaxes F_areaxes B h22_cL h24_cA, PySem.W.mg_of X Gn a_areaxes, F_areaxes.kp, b_areaxes, .nil⟩
  have h42_cMp : MaN P w K mg base 7 "Map" CM (sp_minit K C CR CM) 3 ["closed"] gApp := ⟨_, _, _, _, ⟨mk_CM, a_minit, i_minit, kc_CM⟩, ok_minit F_minit B G GR GM h42_cWpl h44_cWl h55_cAx h46_cAs, GM.mgC, F_minit.kbn (ps := ["self", "plan", "east", "north", "closed"]) 4 ["closed"] gApp gApp_rel fun _ _ _ _ _ _ us ws h1 h2 => match us, ws, h1, h2 with | [_, _, _, _], [_], _, _ => rfl⟩
  have h22_cAr : Ca P w K mg base 9 "_law_area" (sp_larea K C CR CM) [] := ⟨_, _, _, _, ok_larea F_larea B h14_cPs h22_cLp h42_cMp, PySem.W.mg_of X Gn a_larea, F_larea.kp, b_larea, .nil⟩
  have h61_cWm : Ca P w K mg base 1 "want_map" (sp_wantmap K C CR CM) [] := ⟨_, _, _, _, ok_wantmap F_wantmap B GM, PySem.W.mg_of X Gn a_wantmap, F_wantmap.kp, b_wantmap, .nil⟩
  have h63_cWnu : Ca P w K mg base 3 "want_number" (sp_wantnum CR) [] := ⟨_, _, _, _, ok_wantnum F_wantnum h44_cNum, PySem.W.mg_of X Gn a_wantnum, F_wantnum.kp, b_wantnum, .nil⟩
  have h63_cLt : Me P w K mg base 5 CR "is_below" (sp_rbelow CR) [] := ⟨_, _, _, _, I_CR.cl, ⟨a_rbelow, i_rbelow, F_rbelow.kp⟩, ok_rbelow F_rbelow GR h63_cWnu h46_cAs, b_rbelow, .nil⟩
  have h63_cIr : Ca P w K mg base 6 "is_reach" (sp_isreach CR) [] := ⟨_, _, _, _, ok_isreach F_isreach GR h44_cNum h46_cRt1 h63_cLt, PySem.W.mg_of X Gn a_isreach, F_isreach.kp, b_isreach, .nil⟩
  have h69_cWk : Ca P w K mg base 1 "want_kind" sp_wantkind [] := ⟨_, _, _, _, ok_wantkind F_wantkind B GK, PySem.W.mg_of X Gn a_wantkind, F_wantkind.kp, b_wantkind, .nil⟩
  have h61_cGa : Ma P w K mg base 7 "Gauge" CG (sp_ginit K C CR CM CG) [] := ⟨_, _, _, _, ⟨mk_CG, a_ginit, i_ginit, kc_CG⟩, ok_ginit F_ginit GG h61_cWm h63_cIr h69_cWk h46_cAs, GG.mgC, b_ginit, .nil⟩
  have h14_cGg : Ca P w K mg base 10 "_law_gauge" (sp_lgauge K C CR CM CG) [] := ⟨_, _, _, _, ok_lgauge F_lgauge B h14_cPs h22_cAr h61_cGa, PySem.W.mg_of X Gn a_lgauge, F_lgauge.kp, b_lgauge, .nil⟩
  have h75_cCt : Ca P w K mg base 1 "_law_counts" (sp_lcounts K) [] := ⟨_, _, _, _, ok_lcounts F_lcounts B, PySem.W.mg_of X Gn a_lcounts, F_lcounts.kp, b_lcounts, .nil⟩
  have h77_cIl2 : Ca P w K mg base 1 "_law_is_less" (sp_lless K) [] := ⟨_, _, _, _, ok_lless F_lless , PySem.W.mg_of X Gn a_lless, F_lless.kp, b_lless, .nil⟩
  have h77_cTa : Ca P w K mg base 2 "_law_top_at" (sp_ltopat K) [] := ⟨_, _, _, _, ok_ltopat F_ltopat B h77_cIl2, PySem.W.mg_of X Gn a_ltopat, F_ltopat.kp, b_ltopat, .nil⟩
  have h77_cTp : Ca P w K mg base 3 "_law_top" (sp_ltop K) [] := ⟨_, _, _, _, ok_ltop F_ltop h77_cTa h75_cCt, PySem.W.mg_of X Gn a_ltop, F_ltop.kp, b_ltop, .nil⟩
  have h83_cEqR : Op2 P w K mg base 1 CR "__eq__" (sp_req CR) := ⟨_, _, _, ok_req F_req B GR, b_req, a_req, i_req⟩
  have h83_cIt : Ca P w K mg base 4 "_law_is_told" (sp_ltold K CR) [] := ⟨_, _, _, _, ok_ltold F_ltold B GR h14_cRt h83_cEqR, PySem.W.mg_of X Gn a_ltold, F_ltold.kp, b_ltold, .nil⟩
  have h87_cCo : Ca P w K mg base 2 "is_count" (sp_count K) [] := ⟨_, _, _, _, ok_count F_count h14_cI, PySem.W.mg_of X Gn a_count, F_count.kp, b_count, .nil⟩
  have h87_cWf : Ca P w K mg base 3 "want_fineness" sp_wantfine [] := ⟨_, _, _, _, ok_wantfine F_wantfine G h87_cCo, PySem.W.mg_of X Gn a_wantfine, F_wantfine.kp, b_wantfine, .nil⟩
  have h91_cPc : Me P w K mg base 4 C "counts" (sp_pcounts K C) [] := ⟨_, _, _, _, I_C.cl, ⟨a_pcounts, i_pcounts, F_pcounts.kp⟩, ok_pcounts F_pcounts h87_cWf h36_cPr, b_pcounts, .nil⟩
  have h93_cOv : Me P w K mg base 5 CR "over" (sp_rover CR) [] := ⟨_, _, _, _, I_CR.cl, ⟨a_rover, i_rover, F_rover.kp⟩, ok_rover F_rover GR h63_cWnu h46_cAs h14_cRt, b_rover, .nil⟩
  have h91_cMs : Me P w K mg base 6 CM "sides" (sp_msides K C CR CM) [] := ⟨_, _, _, _, I_CM.cl, ⟨a_msides, i_msides, F_msides.kp⟩, ok_msides F_msides GM h87_cWf h91_cPc h93_cOv, b_msides, .nil⟩
  have h97_cMul : Op3 P w K mg base 5 CR "__mul__" (sp_rmul CR) := ⟨⟨_, _, _, ok_rmul F_rmul GR h63_cWnu h46_cAs h14_cRt, b_rmul, a_rmul, i_rmul, fi_rmul⟩, sf_CR, nq_CR⟩
  have h91_cBf : Me P w K mg base 7 CG "bound_found" (sp_gfound K C CR CM CG) [] := ⟨_, _, _, _, I_CG.cl, ⟨a_gfound, i_gfound, F_gfound.kp⟩, ok_gfound F_gfound B GR GG h91_cMs h97_cMul h63_cLt, b_gfound, .nil⟩
  have h91_cBa : Me P w K mg base 8 CG "bound_at" (sp_gat K C CR CM CG) [] := ⟨_, _, _, _, I_CG.cl, ⟨a_gat, i_gat, F_gat.kp⟩, ok_gat F_gat GG h91_cBf, b_gat, .nil⟩
  have h87_cGr : Me P w K mg base 9 CG "greatest" (sp_ggreat K C CR CM CG) [] := ⟨_, _, _, _, I_CG.cl, ⟨a_ggreat, i_ggreat, F_ggreat.kp⟩, ok_ggreat F_ggreat h87_cWf h91_cBa, b_ggreat, .nil⟩
  have h105_cGrK : MeK P w K mg base 9 CG "greatest" (sp_ggreat K C CR CM CG) ["f"] kId := ⟨_, _, _, _, I_CG.cl, ⟨a_ggreat, i_ggreat, F_ggreat.kp⟩, ok_ggreat F_ggreat h87_cWf h91_cBa, F_ggreat.kbn (ps := ["self", "f"]) 1 ["f"] kId kId_rel fun _ _ _ _ _ _ us ws h1 h2 => match us, ws, h1, h2 with | [_], [_], _, _ => rfl⟩
  have h2_cRight : Cg P w K mg base 11 "_law_right" ["_law_pot_here"] sp_right [] := ⟨_, _, _, ok_right F_right B GR RI h2_cDr h4_cMo h14_cGg h75_cCt h77_cTp h83_cIt h87_cGr h105_cGrK h63_cLt h97_cMul h83_cEqR, PySem.W.mg_of X Gn a_right, F_right.kp, b_right, .nil⟩
  exact ok_law F_law B h0_cPot h2_cRight
end T
set_option Elab.async false
set_option maxRecDepth 100000
set_option maxHeartbeats 4000000
namespace T
open PySem L2 Mv
open He (ga ma)
open T0 hiding top
theorem facts {P : Program} {w : World} {K : PySem.W.Frag} {h : Heap} {mg : Str → Option Value} {fa : Addr} (X : K.In h) (Gn : h.Ns mainGlobals mg) (hfa : mg "law" = some (.ref fa)) (c : SaM fcs dfs K) :
    ∃ fd : FuncData, (∀ (s : Shared) (v : Value), BindsTo s fd ⟨[v], []⟩ [("_law_script", v)]) ∧ ∀ base : Heap, K.In base → base.Ns mainGlobals mg → FnG P w K mg base 12 fa fd ["_law_script"] (sp_law K) := by
  obtain ⟨t_EAST, v_EAST⟩ := strB_ok (c.fact 57 (f := q57) rfl)
  obtain ⟨t_NORTH, v_NORTH⟩ := strB_ok (c.fact 58 (f := q58) rfl)
  obtain ⟨t_FEWEST_PARTS, v_FEWEST_PARTS⟩ := intB_ok (c.fact 59 (f := q59) rfl)
  obtain ⟨t_MOST_PARTS, v_MOST_PARTS⟩ := intB_ok (c.fact 60 (f := q60) rfl)
  obtain ⟨t_MOST_FINE, v_MOST_FINE⟩ := intB_ok (c.fact 61 (f := q61) rfl)
  obtain ⟨t1AX, t2AX, nAX, sAX, l_AX⟩ := tup2B_ok (c.fact 63 (f := q63) rfl)
  obtain ⟨u1C, cv_MOST_ROUNDS⟩ := cvB_ok (c.fact 67 (f := q67) rfl)
  obtain ⟨u2C, cv_MOST_CUTS⟩ := cvB_ok (c.fact 68 (f := q68) rfl)
  obtain ⟨u3C, cv_MOST_SIGNS⟩ := cvB_ok (c.fact 69 (f := q69) rfl)
  obtain ⟨t1KD, t2KD, nKD, sKD, l_KD⟩ := tup2B_ok (c.fact 101 (f := q101) rfl)
  obtain ⟨fd_law, F_law⟩ := c.def_ 0 (d := d_law) rfl
  obtain ⟨fd_pot, F_pot⟩ := c.def_ 1 (d := d_pot) rfl
  obtain ⟨fd_right, F_right⟩ := c.def_ 2 (d := d_right) rfl
  obtain ⟨fd_draw, F_draw⟩ := c.def_ 3 (d := d_draw) rfl
  obtain ⟨fd_lmodel, F_lmodel⟩ := c.def_ 4 (d := d_lmodel) rfl
  obtain ⟨fd_pick, F_pick⟩ := c.def_ 5 (d := d_pick) rfl
  obtain ⟨fd_rounds, F_rounds⟩ := c.def_ 6 (d := d_rounds) rfl
  obtain ⟨fd_llength, F_llength⟩ := c.def_ 7 (d := d_llength) rfl
  obtain ⟨fd_lreach, F_lreach⟩ := c.def_ 8 (d := d_lreach) rfl
  obtain ⟨fd_lgauge, F_lgauge⟩ := c.def_ 9 (d := d_lgauge) rfl
  obtain ⟨fd_passed, F_passed⟩ := c.def_ 10 (d := d_passed) rfl
  obtain ⟨fd_rinit, F_rinit⟩ := c.def_ 11 (d := d_rinit) rfl
  obtain ⟨fd_isint, F_isint⟩ := c.def_ 12 (d := d_isint) rfl
  obtain ⟨fd_compart, F_compart⟩ := c.def_ 13 (d := d_compart) rfl
  obtain ⟨fd_larea, F_larea⟩ := c.def_ 14 (d := d_larea) rfl
  obtain ⟨fd_lplan, F_lplan⟩ := c.def_ 15 (d := d_lplan) rfl
  obtain ⟨fd_init, F_init⟩ := c.def_ 16 (d := d_init) rfl
  obtain ⟨fd_wantrounds, F_wantrounds⟩ := c.def_ 17 (d := d_wantrounds) rfl
  obtain ⟨fd_isround, F_isround⟩ := c.def_ 18 (d := d_isround) rfl
  obtain ⟨fd_islist, F_islist⟩ := c.def_ 19 (d := d_islist) rfl
  obtain ⟨fd_iscut, F_iscut⟩ := c.def_ 20 (d := d_iscut) rfl
  obtain ⟨fd_isaxis, F_isaxis⟩ := c.def_ 21 (d := d_isaxis) rfl
  obtain ⟨fd_areparts, F_areparts⟩ := c.def_ 22 (d := d_areparts) rfl
  obtain ⟨fd_along1, F_along1⟩ := c.def_ 23 (d := d_along1) rfl
  obtain ⟨fd_prod, F_prod⟩ := c.def_ 24 (d := d_prod) rfl
  obtain ⟨fd_minit, F_minit⟩ := c.def_ 25 (d := d_minit) rfl
  obtain ⟨fd_wantplan, F_wantplan⟩ := c.def_ 26 (d := d_wantplan) rfl
  obtain ⟨fd_wantlen, F_wantlen⟩ := c.def_ 27 (d := d_wantlen) rfl
  obtain ⟨fd_islen, F_islen⟩ := c.def_ 28 (d := d_islen) rfl
  obtain ⟨fd_isnum, F_isnum⟩ := c.def_ 29 (d := d_isnum) rfl
  obtain ⟨fd_asratio, F_asratio⟩ := c.def_ 30 (d := d_asratio) rfl
  obtain ⟨r_rsign, e_rsign⟩ := recB_ok (c.fact 140 (f := q140) rfl)
  obtain ⟨fd_rsign, F_rsign⟩ := c.def_ 31 (d := d_rsign) rfl
  obtain ⟨fd_areaxes, F_areaxes⟩ := c.def_ 32 (d := d_areaxes) rfl
  obtain ⟨fd_ginit, F_ginit⟩ := c.def_ 33 (d := d_ginit) rfl
  obtain ⟨fd_wantmap, F_wantmap⟩ := c.def_ 34 (d := d_wantmap) rfl
  obtain ⟨fd_isreach, F_isreach⟩ := c.def_ 35 (d := d_isreach) rfl
  obtain ⟨fd_rbelow, F_rbelow⟩ := c.def_ 36 (d := d_rbelow) rfl
  obtain ⟨fd_wantnum, F_wantnum⟩ := c.def_ 37 (d := d_wantnum) rfl
  obtain ⟨fd_wantkind, F_wantkind⟩ := c.def_ 38 (d := d_wantkind) rfl
  obtain ⟨fd_lcounts, F_lcounts⟩ := c.def_ 39 (d := d_lcounts) rfl
  obtain ⟨fd_ltop, F_ltop⟩ := c.def_ 40 (d := d_ltop) rfl
  obtain ⟨fd_ltopat, F_ltopat⟩ := c.def_ 41 (d := d_ltopat) rfl
  obtain ⟨fd_lless, F_lless⟩ := c.def_ 42 (d := d_lless) rfl
  obtain ⟨fd_ltold, F_ltold⟩ := c.def_ 43 (d := d_ltold) rfl
  obtain ⟨fd_req, F_req⟩ := c.def_ 44 (d := d_req) rfl
  obtain ⟨fd_ggreat, F_ggreat⟩ := c.def_ 45 (d := d_ggreat) rfl
  obtain ⟨fd_wantfine, F_wantfine⟩ := c.def_ 46 (d := d_wantfine) rfl
  obtain ⟨fd_count, F_count⟩ := c.def_ 47 (d := d_count) rfl
  obtain ⟨fd_gat, F_gat⟩ := c.def_ 48 (d := d_gat) rfl
  obtain ⟨fd_gfound, F_gfound⟩ := c.def_ 49 (d := d_gfound) rfl
  obtain ⟨fd_msides, F_msides⟩ := c.def_ 50 (d := d_msides) rfl
  obtain ⟨fd_pcounts, F_pcounts⟩ := c.def_ 51 (d := d_pcounts) rfl
  obtain ⟨fd_rover, F_rover⟩ := c.def_ 52 (d := d_rover) rfl
  obtain ⟨fd_rmul, F_rmul⟩ := c.def_ 53 (d := d_rmul) rfl
  exact all_mk (P := P) (w := w) X Gn hfa (CR := (ga K "Ratio")) (fo_mul := ((PySem.W.findIn K (.type "int") "__mul__").getD none)) (ro_mul := ((PySem.W.findIn K (.type "int") "__rmul__").getD none)) (g_rmul := (ma K (ga K "Ratio") "__rmul__")) (C := (ga K "Plan")) (AX := (ga K "AXES")) (CM := (ga K "Map")) (CG := (ga K "Gauge")) (KD := (ga K "KINDS")) (f_law := (ga K "law")) (f_pot := (ga K "_law_pot")) (f_right := (ga K "_law_right")) (f_draw := (ga K "_law_draw")) (f_lmodel := (ga K "_law_model")) (f_pick := (ga K "_law_pick")) (f_rounds := (ga K "_law_rounds")) (f_llength := (ga K "_law_length")) (f_lreach := (ga K "_law_reach")) (f_lgauge := (ga K "_law_gauge")) (f_passed := (ga K "_law_passed")) (f_rinit := (ma K (ga K "Ratio") "__init__")) (f_isint := (ga K "is_integer")) (f_compart := (ga K "common_part")) (f_larea := (ga K "_law_area")) (f_lplan := (ga K "_law_plan")) (f_init := (ma K (ga K "Plan") "__init__")) (f_wantrounds := (ga K "want_rounds")) (f_isround := (ga K "is_round")) (f_islist := (ga K "is_list")) (f_iscut := (ga K "is_cut")) (f_isaxis := (ga K "is_axis")) (f_areparts := (ga K "are_parts")) (f_along1 := (ga K "parts_along")) (f_prod := (ma K (ga K "Plan") "product_of")) (f_minit := (ma K (ga K "Map") "__init__")) (f_wantplan := (ga K "want_plan")) (f_wantlen := (ga K "want_length")) (f_islen := (ga K "is_length")) (f_isnum := (ga K "is_number")) (f_asratio := (ga K "as_ratio")) (p_rsign := (ma K (ga K "Ratio") "sign")) (f_rsign := (recAd K (ma K (ga K "Ratio") "sign") "property")) (f_areaxes := (ga K "are_axes")) (f_ginit := (ma K (ga K "Gauge") "__init__")) (f_wantmap := (ga K "want_map")) (f_isreach := (ga K "is_reach")) (f_rbelow := (ma K (ga K "Ratio") "is_below")) (f_wantnum := (ga K "want_number")) (f_wantkind := (ga K "want_kind")) (f_lcounts := (ga K "_law_counts")) (f_ltop := (ga K "_law_top")) (f_ltopat := (ga K "_law_top_at")) (f_lless := (ga K "_law_is_less")) (f_ltold := (ga K "_law_is_told")) (f_req := (ma K (ga K "Ratio") "__eq__")) (f_ggreat := (ma K (ga K "Gauge") "greatest")) (f_wantfine := (ga K "want_fineness")) (f_count := (ga K "is_count")) (f_gat := (ma K (ga K "Gauge") "bound_at")) (f_gfound := (ma K (ga K "Gauge") "bound_found")) (f_msides := (ma K (ga K "Map") "sides")) (f_pcounts := (ma K (ga K "Plan") "counts")) (f_rover := (ma K (ga K "Ratio") "over")) (f_rmul := (ma K (ga K "Ratio") "__mul__"))
    (of_decide_eq_true (p := PySem.W.specialIn K (.builtin "object.__class__") "__get__" = some (some (.builtin "getset_descriptor.__get__"))) (c.fact 0 (f := q0) rfl))
    (of_decide_eq_true (p := PySem.W.takesIn K (.builtin "object.__class__") = some true) (c.fact 1 (f := q1) rfl))
    (of_decide_eq_true (p := PySem.W.nsIn K mainGlobals "len" = some none) (c.fact 2 (f := q2) rfl))
    (of_decide_eq_true (p := PySem.W.nsIn K mainGlobals "abs" = some none) (c.fact 3 (f := q3) rfl))
    (of_decide_eq_true (p := PySem.W.nsIn K mainGlobals "max" = some none) (c.fact 4 (f := q4) rfl))
    (of_decide_eq_true (p := PySem.W.nsIn K mainGlobals "min" = some none) (c.fact 5 (f := q5) rfl))
    (of_decide_eq_true (p := PySem.W.nsIn K mainGlobals "int" = some none) (c.fact 6 (f := q6) rfl))
    (of_decide_eq_true (p := PySem.W.nsIn K mainGlobals "bool" = some none) (c.fact 7 (f := q7) rfl))
    (of_decide_eq_true (p := PySem.W.nsIn K mainGlobals "str" = some none) (c.fact 8 (f := q8) rfl))
    (of_decide_eq_true (p := PySem.W.nsIn K mainGlobals "repr" = some none) (c.fact 9 (f := q9) rfl))
    (of_decide_eq_true (p := PySem.W.nsIn K mainGlobals "all" = some none) (c.fact 10 (f := q10) rfl))
    (of_decide_eq_true (p := PySem.W.nsIn K mainGlobals "any" = some none) (c.fact 11 (f := q11) rfl))
    (of_decide_eq_true (p := PySem.W.nsIn K mainGlobals "range" = some none) (c.fact 12 (f := q12) rfl))
    (of_decide_eq_true (p := PySem.W.nsIn K mainGlobals "divmod" = some none) (c.fact 13 (f := q13) rfl))
    (of_decide_eq_true (p := PySem.W.nsIn K mainGlobals "isinstance" = some none) (c.fact 14 (f := q14) rfl))
    (of_decide_eq_true (p := PySem.W.nsIn K mainGlobals "list" = some none) (c.fact 15 (f := q15) rfl))
    (of_decide_eq_true (p := PySem.W.nsIn K mainGlobals "tuple" = some none) (c.fact 16 (f := q16) rfl))
    (of_decide_eq_true (p := PySem.W.nsIn K mainGlobals "dict" = some none) (c.fact 17 (f := q17) rfl))
    (of_decide_eq_true (p := PySem.W.nsIn K mainGlobals "enumerate" = some none) (c.fact 18 (f := q18) rfl))
    (of_decide_eq_true (p := PySem.W.nsIn K mainGlobals "zip" = some none) (c.fact 19 (f := q19) rfl))
    (of_decide_eq_true (p := PySem.W.nsIn K mainGlobals "sorted" = some none) (c.fact 20 (f := q20) rfl))
    (of_decide_eq_true (p := PySem.W.nsIn K mainGlobals "sum" = some none) (c.fact 21 (f := q21) rfl))
    (of_decide_eq_true (p := PySem.W.nsIn K mainGlobals "type" = some none) (c.fact 22 (f := q22) rfl))
    (of_decide_eq_true (p := PySem.W.nsIn K mainGlobals "Ratio" = some (some (.ref (ga K "Ratio")))) (c.fact 23 (f := q23) rfl))
    (c.fact 24 (f := q24) rfl)
    (c.fact 25 (f := q25) rfl)
    (c.fact 26 (f := q26) rfl)
    (of_decide_eq_true (p := PySem.W.findIn K (.ref (ga K "Ratio")) "__setattr__" = some (some (.builtin "object.__setattr__"))) (c.fact 27 (f := q27) rfl))
    (c.fact 28 (f := q28) rfl)
    (c.fact 29 (f := q29) rfl)
    (of_decide_eq_true (p := PySem.W.findIn K (.ref (ga K "Ratio")) "__class__" = some (some (.builtin "object.__class__"))) (c.fact 30 (f := q30) rfl))
    (of_decide_eq_true (p := PySem.W.mroIn K (ga K "Ratio") (.type "object") = some true) (c.fact 31 (f := q31) rfl))
    (of_decide_eq_true (p := PySem.W.kitOne K (.ref (ga K "Ratio")) (.ref (ga K "Ratio")) = some true) (c.fact 32 (f := q32) rfl))
    (of_decide_eq_true (p := PySem.W.findIn K (.ref (ga K "Ratio")) "__ne__" = some (some (.builtin "object.__ne__"))) (c.fact 33 (f := q33) rfl))
    (of_decide_eq_true (p := PySem.W.findIn K (.ref (ga K "Ratio")) "own_top" = some none) (c.fact 34 (f := q34) rfl))
    (of_decide_eq_true (p := PySem.W.findIn K (.ref (ga K "Ratio")) "own_bottom" = some none) (c.fact 35 (f := q35) rfl))
    (of_decide_eq_true (p := PySem.W.kitOne K (.ref (ga K "Ratio")) (.type "int") = some false) (c.fact 36 (f := q36) rfl))
    (of_decide_eq_true (p := PySem.W.kitOne K (.ref (ga K "Ratio")) (.type "bool") = some false) (c.fact 37 (f := q37) rfl))
    (of_decide_eq_true (p := PySem.W.kitOne K (.type "int") (.ref (ga K "Ratio")) = some false) (c.fact 38 (f := q38) rfl))
    (of_decide_eq_true (p := PySem.W.findIn K (.ref (ga K "Ratio")) "__rmul__" = some (some (.ref (ma K (ga K "Ratio") "__rmul__")))) (c.fact 39 (f := q39) rfl))
    (of_decide_eq_true (p := PySem.W.findIn K (.type "int") "__mul__" = some ((PySem.W.findIn K (.type "int") "__mul__").getD none)) (c.fact 40 (f := q40) rfl))
    (of_decide_eq_true (p := PySem.W.findIn K (.type "int") "__rmul__" = some ((PySem.W.findIn K (.type "int") "__rmul__").getD none)) (c.fact 41 (f := q41) rfl))
    (of_decide_eq_true (p := PySem.W.subIn K (.type "int") (.ref (ga K "Ratio")) = some false) (c.fact 42 (f := q42) rfl))
    (of_decide_eq_true (p := PySem.W.nsIn K mainGlobals "Plan" = some (some (.ref (ga K "Plan")))) (c.fact 43 (f := q43) rfl))
    (c.fact 44 (f := q44) rfl)
    (c.fact 45 (f := q45) rfl)
    (c.fact 46 (f := q46) rfl)
    (of_decide_eq_true (p := PySem.W.findIn K (.ref (ga K "Plan")) "__setattr__" = some (some (.builtin "object.__setattr__"))) (c.fact 47 (f := q47) rfl))
    (c.fact 48 (f := q48) rfl)
    (c.fact 49 (f := q49) rfl)
    (of_decide_eq_true (p := PySem.W.findIn K (.ref (ga K "Plan")) "__class__" = some (some (.builtin "object.__class__"))) (c.fact 50 (f := q50) rfl))
    (of_decide_eq_true (p := PySem.W.mroIn K (ga K "Plan") (.type "object") = some true) (c.fact 51 (f := q51) rfl))
    (of_decide_eq_true (p := PySem.W.kitOne K (.ref (ga K "Plan")) (.ref (ga K "Plan")) = some true) (c.fact 52 (f := q52) rfl))
    (of_decide_eq_true (p := PySem.W.findIn K (.ref (ga K "Plan")) "__ne__" = some (some (.builtin "object.__ne__"))) (c.fact 53 (f := q53) rfl))
    (of_decide_eq_true (p := PySem.W.findIn K (.ref (ga K "Plan")) "own_rounds" = some none) (c.fact 54 (f := q54) rfl))
    (of_decide_eq_true (p := PySem.W.findIn K (.ref (ga K "Plan")) "own_parts" = some none) (c.fact 55 (f := q55) rfl))
    (of_decide_eq_true (p := PySem.W.findIn K (.ref (ga K "Plan")) "own_growth" = some none) (c.fact 56 (f := q56) rfl))
    v_EAST
    v_NORTH
    v_FEWEST_PARTS
    v_MOST_PARTS
    v_MOST_FINE
    (of_decide_eq_true (p := PySem.W.nsIn K mainGlobals "AXES" = some (some (.ref (ga K "AXES")))) (c.fact 62 (f := q62) rfl))
    l_AX
    (of_decide_eq_true (p := PySem.W.typeIn K (.ref (ga K "Plan")) = some (.type "type")) (c.fact 64 (f := q64) rfl))
    (of_decide_eq_true (p := PySem.W.specialIn K (.ref (ga K "Plan")) "__getattribute__" = some (some (.builtin "type.__getattribute__"))) (c.fact 65 (f := q65) rfl))
    (c.fact 66 (f := q66) rfl)
    cv_MOST_ROUNDS
    cv_MOST_CUTS
    cv_MOST_SIGNS
    (of_decide_eq_true (p := PySem.W.nsIn K mainGlobals "Map" = some (some (.ref (ga K "Map")))) (c.fact 70 (f := q70) rfl))
    (c.fact 71 (f := q71) rfl)
    (c.fact 72 (f := q72) rfl)
    (c.fact 73 (f := q73) rfl)
    (of_decide_eq_true (p := PySem.W.findIn K (.ref (ga K "Map")) "__setattr__" = some (some (.builtin "object.__setattr__"))) (c.fact 74 (f := q74) rfl))
    (c.fact 75 (f := q75) rfl)
    (c.fact 76 (f := q76) rfl)
    (of_decide_eq_true (p := PySem.W.findIn K (.ref (ga K "Map")) "__class__" = some (some (.builtin "object.__class__"))) (c.fact 77 (f := q77) rfl))
    (of_decide_eq_true (p := PySem.W.mroIn K (ga K "Map") (.type "object") = some true) (c.fact 78 (f := q78) rfl))
    (of_decide_eq_true (p := PySem.W.kitOne K (.ref (ga K "Map")) (.ref (ga K "Map")) = some true) (c.fact 79 (f := q79) rfl))
    (of_decide_eq_true (p := PySem.W.findIn K (.ref (ga K "Map")) "__ne__" = some (some (.builtin "object.__ne__"))) (c.fact 80 (f := q80) rfl))
    (of_decide_eq_true (p := PySem.W.findIn K (.ref (ga K "Map")) "own_plan" = some none) (c.fact 81 (f := q81) rfl))
    (of_decide_eq_true (p := PySem.W.findIn K (.ref (ga K "Map")) "own_lengths" = some none) (c.fact 82 (f := q82) rfl))
    (of_decide_eq_true (p := PySem.W.findIn K (.ref (ga K "Map")) "own_closed" = some none) (c.fact 83 (f := q83) rfl))
    (of_decide_eq_true (p := PySem.W.nsIn K mainGlobals "Gauge" = some (some (.ref (ga K "Gauge")))) (c.fact 84 (f := q84) rfl))
    (c.fact 85 (f := q85) rfl)
    (c.fact 86 (f := q86) rfl)
    (c.fact 87 (f := q87) rfl)
    (of_decide_eq_true (p := PySem.W.findIn K (.ref (ga K "Gauge")) "__setattr__" = some (some (.builtin "object.__setattr__"))) (c.fact 88 (f := q88) rfl))
    (c.fact 89 (f := q89) rfl)
    (c.fact 90 (f := q90) rfl)
    (of_decide_eq_true (p := PySem.W.findIn K (.ref (ga K "Gauge")) "__class__" = some (some (.builtin "object.__class__"))) (c.fact 91 (f := q91) rfl))
    (of_decide_eq_true (p := PySem.W.mroIn K (ga K "Gauge") (.type "object") = some true) (c.fact 92 (f := q92) rfl))
    (of_decide_eq_true (p := PySem.W.kitOne K (.ref (ga K "Gauge")) (.ref (ga K "Gauge")) = some true) (c.fact 93 (f := q93) rfl))
    (of_decide_eq_true (p := PySem.W.findIn K (.ref (ga K "Gauge")) "__ne__" = some (some (.builtin "object.__ne__"))) (c.fact 94 (f := q94) rfl))
    (of_decide_eq_true (p := PySem.W.findIn K (.ref (ga K "Gauge")) "own_area" = some none) (c.fact 95 (f := q95) rfl))
    (of_decide_eq_true (p := PySem.W.findIn K (.ref (ga K "Gauge")) "own_reaches" = some none) (c.fact 96 (f := q96) rfl))
    (of_decide_eq_true (p := PySem.W.findIn K (.ref (ga K "Gauge")) "own_kind" = some none) (c.fact 97 (f := q97) rfl))
    (of_decide_eq_true (p := PySem.W.findIn K (.ref (ga K "Gauge")) "own_sides" = some none) (c.fact 98 (f := q98) rfl))
    (of_decide_eq_true (p := PySem.W.findIn K (.ref (ga K "Gauge")) "own_bounds" = some none) (c.fact 99 (f := q99) rfl))
    (of_decide_eq_true (p := PySem.W.nsIn K mainGlobals "KINDS" = some (some (.ref (ga K "KINDS")))) (c.fact 100 (f := q100) rfl))
    l_KD
    (of_decide_eq_true (p := PySem.W.nsIn K mainGlobals "law" = some (some (.ref (ga K "law")))) (c.fact 102 (f := q102) rfl))
    F_law
    (of_decide_eq_true (p := PySem.W.nsIn K mainGlobals "_law_pot" = some (some (.ref (ga K "_law_pot")))) (c.fact 103 (f := q103) rfl))
    F_pot
    (of_decide_eq_true (p := PySem.W.nsIn K mainGlobals "_law_right" = some (some (.ref (ga K "_law_right")))) (c.fact 104 (f := q104) rfl))
    F_right
    (of_decide_eq_true (p := PySem.W.nsIn K mainGlobals "_law_draw" = some (some (.ref (ga K "_law_draw")))) (c.fact 105 (f := q105) rfl))
    F_draw
    (of_decide_eq_true (p := PySem.W.nsIn K mainGlobals "_law_model" = some (some (.ref (ga K "_law_model")))) (c.fact 106 (f := q106) rfl))
    F_lmodel
    (of_decide_eq_true (p := PySem.W.nsIn K mainGlobals "_law_pick" = some (some (.ref (ga K "_law_pick")))) (c.fact 107 (f := q107) rfl))
    F_pick
    (of_decide_eq_true (p := PySem.W.nsIn K mainGlobals "_law_rounds" = some (some (.ref (ga K "_law_rounds")))) (c.fact 108 (f := q108) rfl))
    F_rounds
    (of_decide_eq_true (p := PySem.W.nsIn K mainGlobals "_law_length" = some (some (.ref (ga K "_law_length")))) (c.fact 109 (f := q109) rfl))
    F_llength
    (of_decide_eq_true (p := PySem.W.nsIn K mainGlobals "_law_reach" = some (some (.ref (ga K "_law_reach")))) (c.fact 110 (f := q110) rfl))
    F_lreach
    (of_decide_eq_true (p := PySem.W.nsIn K mainGlobals "_law_gauge" = some (some (.ref (ga K "_law_gauge")))) (c.fact 111 (f := q111) rfl))
    F_lgauge
    (of_decide_eq_true (p := PySem.W.nsIn K mainGlobals "_law_passed" = some (some (.ref (ga K "_law_passed")))) (c.fact 112 (f := q112) rfl))
    F_passed
    (of_decide_eq_true (p := PySem.W.findIn K (.ref (ga K "Ratio")) "__init__" = some (some (.ref (ma K (ga K "Ratio") "__init__")))) (c.fact 113 (f := q113) rfl))
    (c.fact 114 (f := q114) rfl)
    F_rinit
    (of_decide_eq_true (p := PySem.W.nsIn K mainGlobals "is_integer" = some (some (.ref (ga K "is_integer")))) (c.fact 115 (f := q115) rfl))
    F_isint
    (of_decide_eq_true (p := PySem.W.nsIn K mainGlobals "common_part" = some (some (.ref (ga K "common_part")))) (c.fact 116 (f := q116) rfl))
    F_compart
    (of_decide_eq_true (p := PySem.W.nsIn K mainGlobals "_law_area" = some (some (.ref (ga K "_law_area")))) (c.fact 117 (f := q117) rfl))
    F_larea
    (of_decide_eq_true (p := PySem.W.nsIn K mainGlobals "_law_plan" = some (some (.ref (ga K "_law_plan")))) (c.fact 118 (f := q118) rfl))
    F_lplan
    (of_decide_eq_true (p := PySem.W.findIn K (.ref (ga K "Plan")) "__init__" = some (some (.ref (ma K (ga K "Plan") "__init__")))) (c.fact 119 (f := q119) rfl))
    (c.fact 120 (f := q120) rfl)
    F_init
    (of_decide_eq_true (p := PySem.W.nsIn K mainGlobals "want_rounds" = some (some (.ref (ga K "want_rounds")))) (c.fact 121 (f := q121) rfl))
    F_wantrounds
    (of_decide_eq_true (p := PySem.W.nsIn K mainGlobals "is_round" = some (some (.ref (ga K "is_round")))) (c.fact 122 (f := q122) rfl))
    F_isround
    (of_decide_eq_true (p := PySem.W.nsIn K mainGlobals "is_list" = some (some (.ref (ga K "is_list")))) (c.fact 123 (f := q123) rfl))
    F_islist
    (of_decide_eq_true (p := PySem.W.nsIn K mainGlobals "is_cut" = some (some (.ref (ga K "is_cut")))) (c.fact 124 (f := q124) rfl))
    F_iscut
    (of_decide_eq_true (p := PySem.W.nsIn K mainGlobals "is_axis" = some (some (.ref (ga K "is_axis")))) (c.fact 125 (f := q125) rfl))
    F_isaxis
    (of_decide_eq_true (p := PySem.W.nsIn K mainGlobals "are_parts" = some (some (.ref (ga K "are_parts")))) (c.fact 126 (f := q126) rfl))
    F_areparts
    (of_decide_eq_true (p := PySem.W.nsIn K mainGlobals "parts_along" = some (some (.ref (ga K "parts_along")))) (c.fact 127 (f := q127) rfl))
    F_along1
    (of_decide_eq_true (p := PySem.W.findIn K (.ref (ga K "Plan")) "product_of" = some (some (.ref (ma K (ga K "Plan") "product_of")))) (c.fact 128 (f := q128) rfl))
    (c.fact 129 (f := q129) rfl)
    F_prod
    (of_decide_eq_true (p := PySem.W.findIn K (.ref (ga K "Map")) "__init__" = some (some (.ref (ma K (ga K "Map") "__init__")))) (c.fact 130 (f := q130) rfl))
    (c.fact 131 (f := q131) rfl)
    F_minit
    (of_decide_eq_true (p := PySem.W.nsIn K mainGlobals "want_plan" = some (some (.ref (ga K "want_plan")))) (c.fact 132 (f := q132) rfl))
    F_wantplan
    (of_decide_eq_true (p := PySem.W.nsIn K mainGlobals "want_length" = some (some (.ref (ga K "want_length")))) (c.fact 133 (f := q133) rfl))
    F_wantlen
    (of_decide_eq_true (p := PySem.W.nsIn K mainGlobals "is_length" = some (some (.ref (ga K "is_length")))) (c.fact 134 (f := q134) rfl))
    F_islen
    (of_decide_eq_true (p := PySem.W.nsIn K mainGlobals "is_number" = some (some (.ref (ga K "is_number")))) (c.fact 135 (f := q135) rfl))
    F_isnum
    (of_decide_eq_true (p := PySem.W.nsIn K mainGlobals "as_ratio" = some (some (.ref (ga K "as_ratio")))) (c.fact 136 (f := q136) rfl))
    F_asratio
    (of_decide_eq_true (p := PySem.W.findIn K (.ref (ga K "Ratio")) "sign" = some (some (.ref (ma K (ga K "Ratio") "sign")))) (c.fact 137 (f := q137) rfl))
    (of_decide_eq_true (p := PySem.W.specialIn K (.ref (ma K (ga K "Ratio") "sign")) "__get__" = some (some (.builtin "property.__get__"))) (c.fact 138 (f := q138) rfl))
    (of_decide_eq_true (p := PySem.W.takesIn K (.ref (ma K (ga K "Ratio") "sign")) = some true) (c.fact 139 (f := q139) rfl))
    e_rsign
    F_rsign
    (of_decide_eq_true (p := PySem.W.nsIn K mainGlobals "are_axes" = some (some (.ref (ga K "are_axes")))) (c.fact 141 (f := q141) rfl))
    F_areaxes
    (of_decide_eq_true (p := PySem.W.findIn K (.ref (ga K "Gauge")) "__init__" = some (some (.ref (ma K (ga K "Gauge") "__init__")))) (c.fact 142 (f := q142) rfl))
    (c.fact 143 (f := q143) rfl)
    F_ginit
    (of_decide_eq_true (p := PySem.W.nsIn K mainGlobals "want_map" = some (some (.ref (ga K "want_map")))) (c.fact 144 (f := q144) rfl))
    F_wantmap
    (of_decide_eq_true (p := PySem.W.nsIn K mainGlobals "is_reach" = some (some (.ref (ga K "is_reach")))) (c.fact 145 (f := q145) rfl))
    F_isreach
    (of_decide_eq_true (p := PySem.W.findIn K (.ref (ga K "Ratio")) "is_below" = some (some (.ref (ma K (ga K "Ratio") "is_below")))) (c.fact 146 (f := q146) rfl))
    (c.fact 147 (f := q147) rfl)
    F_rbelow
    (of_decide_eq_true (p := PySem.W.nsIn K mainGlobals "want_number" = some (some (.ref (ga K "want_number")))) (c.fact 148 (f := q148) rfl))
    F_wantnum
    (of_decide_eq_true (p := PySem.W.nsIn K mainGlobals "want_kind" = some (some (.ref (ga K "want_kind")))) (c.fact 149 (f := q149) rfl))
    F_wantkind
    (of_decide_eq_true (p := PySem.W.nsIn K mainGlobals "_law_counts" = some (some (.ref (ga K "_law_counts")))) (c.fact 150 (f := q150) rfl))
    F_lcounts
    (of_decide_eq_true (p := PySem.W.nsIn K mainGlobals "_law_top" = some (some (.ref (ga K "_law_top")))) (c.fact 151 (f := q151) rfl))
    F_ltop
    (of_decide_eq_true (p := PySem.W.nsIn K mainGlobals "_law_top_at" = some (some (.ref (ga K "_law_top_at")))) (c.fact 152 (f := q152) rfl))
    F_ltopat
    (of_decide_eq_true (p := PySem.W.nsIn K mainGlobals "_law_is_less" = some (some (.ref (ga K "_law_is_less")))) (c.fact 153 (f := q153) rfl))
    F_lless
    (of_decide_eq_true (p := PySem.W.nsIn K mainGlobals "_law_is_told" = some (some (.ref (ga K "_law_is_told")))) (c.fact 154 (f := q154) rfl))
    F_ltold
    (of_decide_eq_true (p := PySem.W.findIn K (.ref (ga K "Ratio")) "__eq__" = some (some (.ref (ma K (ga K "Ratio") "__eq__")))) (c.fact 155 (f := q155) rfl))
    (c.fact 156 (f := q156) rfl)
    F_req
    (of_decide_eq_true (p := PySem.W.findIn K (.ref (ga K "Gauge")) "greatest" = some (some (.ref (ma K (ga K "Gauge") "greatest")))) (c.fact 157 (f := q157) rfl))
    (c.fact 158 (f := q158) rfl)
    F_ggreat
    (of_decide_eq_true (p := PySem.W.nsIn K mainGlobals "want_fineness" = some (some (.ref (ga K "want_fineness")))) (c.fact 159 (f := q159) rfl))
    F_wantfine
    (of_decide_eq_true (p := PySem.W.nsIn K mainGlobals "is_count" = some (some (.ref (ga K "is_count")))) (c.fact 160 (f := q160) rfl))
    F_count
    (of_decide_eq_true (p := PySem.W.findIn K (.ref (ga K "Gauge")) "bound_at" = some (some (.ref (ma K (ga K "Gauge") "bound_at")))) (c.fact 161 (f := q161) rfl))
    (c.fact 162 (f := q162) rfl)
    F_gat
    (of_decide_eq_true (p := PySem.W.findIn K (.ref (ga K "Gauge")) "bound_found" = some (some (.ref (ma K (ga K "Gauge") "bound_found")))) (c.fact 163 (f := q163) rfl))
    (c.fact 164 (f := q164) rfl)
    F_gfound
    (of_decide_eq_true (p := PySem.W.findIn K (.ref (ga K "Map")) "sides" = some (some (.ref (ma K (ga K "Map") "sides")))) (c.fact 165 (f := q165) rfl))
    (c.fact 166 (f := q166) rfl)
    F_msides
    (of_decide_eq_true (p := PySem.W.findIn K (.ref (ga K "Plan")) "counts" = some (some (.ref (ma K (ga K "Plan") "counts")))) (c.fact 167 (f := q167) rfl))
    (c.fact 168 (f := q168) rfl)
    F_pcounts
    (of_decide_eq_true (p := PySem.W.findIn K (.ref (ga K "Ratio")) "over" = some (some (.ref (ma K (ga K "Ratio") "over")))) (c.fact 169 (f := q169) rfl))
    (c.fact 170 (f := q170) rfl)
    F_rover
    (of_decide_eq_true (p := PySem.W.findIn K (.ref (ga K "Ratio")) "__mul__" = some (some (.ref (ma K (ga K "Ratio") "__mul__")))) (c.fact 171 (f := q171) rfl))
    (c.fact 172 (f := q172) rfl)
    F_rmul
    (c.fact 173 (f := q173) rfl)
    (c.fact 174 (f := q174) rfl)
    (c.fact 175 (f := q175) rfl)
end T
set_option Elab.async false
open PySem PySem.W PySem.Calls PyProof.Rows
set_option maxRecDepth 100000 in
set_option maxHeartbeats 0 in
theorem PySem.Challenge.cw_movecells_k51_whole_greatest_distances_holds : PySem.Challenge.rw_movecells_k51_whole_greatest_distances.Holds := by
  w_on; o_law
  refine HandSHeadRun.head_any (r := T0.Ro) (q := view T0.Ro.prog [83]) (H := T0.hkM) (ob := Mv.seeM 0 T0.fcs T0.dfs) (M := 60000) (loose := T0.nms) (d := HandSHeadRun.topDef T0.Ro.prog 83) (kwd := []) (fun s => Mv.seeM_eq s)
    (by kernel_rfl) (fun s => by kernel_rfl) T0.topRuns (by kernel_rfl) (by kernel_rfl) (by kernel_rfl) (by rfl) (by first | assumption | decide +kernel) (by decide +kernel) ⟨rfl, rfl, rfl, rfl, rfl, by decide +kernel⟩ ?hw ?hc
  case hw => w_witness2
  case hc =>
    refine Mv.walk_gM (x := "_law_script") (l := PySem.Challenge.rw_movecells_k51_whole_greatest_distances) (n := 63) (k := 12) (sp := T.sp_law) rfl (by decide) (by kernel_rfl) ⟨rfl, by decide, by decide⟩ (fun w mg fa h Y G hm => ?_) fun _ _ a ns hl hS => ⟨a, ns, rfl, hS, hl, fun _ => rfl⟩
    obtain ⟨K, KX, c⟩ := Y
    have e : (HandSHeadRun.topDef T0.Ro.prog 83).name = ("law" : PySem.Str) := by kernel_rfl
    obtain ⟨fd, hb, hF⟩ := T.facts (P := (PySem.Challenge.rw_movecells_k51_whole_greatest_distances).prog) (w := w) KX G (e ▸ hm) c
    exact ⟨K, fd, KX, hb, hF⟩
