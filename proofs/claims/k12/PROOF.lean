import PyProof.Rows.All
import Wide.All
import OpenK.AllK
import Wide.FinOn
import HandS.ForMost
import HandS.Wide
import HandS.WideBits
import HandS.IsInst
import HandS.Property
import HandS.ClsMeth
import HandS.FStr
import HandS.MakeKw
import HandS.Flow
import HandS.RaiseMore
import PyProof.ReprRoads
import PyProof.InstEq
import KE.KCallOwn
import KE.KFmtOwn
import HandS.SlotsOwn
import PyProof.ReprNest
import PyProof.StrHeap
import HandS.Defaults
import HandS.MakeKwOnly
import KE.IntTextLaws
import HandS.Walk
import KE.RegKIsAll
import PySem.Challenge.RW_movecells_k12_ratios_compared_and_read
set_option Elab.async false
set_option maxRecDepth 100000
set_option maxHeartbeats 4000000
namespace Mv
open PySem PySem.Spec PyProof.Rows L2
section
variable {X : Cx}
/-- // by any divisor but 0 below 2 ^ 9000 -/
def CDivX (_ j : Int) : Prop := j ≠ 0 ∧ j.natAbs.log2 < 9000
theorem op_fdivX : OpR X (binaryOp .FloorDiv) (rI CDivX fun i j => .int (i.fdiv j)) := opI fun i j _ _ _ _ _ hc q => by
  exact floordiv_int hc.1 q (Or.inl (PyProof.noPylong_of_log2 hc.2))
theorem divp_of {i j : Int} (h : 0 < j) (h2 : j.natAbs.log2 < 9000) : CDivP i j := ⟨h, PyProof.noPylong_of_log2 h2⟩
end
/-! ### guards: no repr is running -/
abbrev GA (A : Around) : Prop := A.guards = some []
theorem ga_deeper {A : Around} {env : Env} (h : GA A) : GA (A.deeper env) := h
theorem ga_make {A : Around} (h : GA A) (C : Addr) (us : List Value) (kw : List (Str × Value)) : GA (A.under (.builtin "type.__call__" ⟨.ref C :: us, kw⟩)) := by
  first | exact h | (simpa [GA, Around.under, Code.guards, Code.isGuard, guardIds, pushGuards] using h)
theorem ga_in1 {A : Around} (h : GA A) : GA A.in1 := h
/-- a def that may be called where no repr is running -/
structure FnG (P : Program) (w : World) (K : PySem.W.Frag) (mg : Str → Option Value) (base : Heap) (k : Nat) (f : Addr) (fd : FuncData) (ps : List Str) (sp : Sp) : Prop where
  len : ∀ vs H Q E, sp vs H Q E → vs.length = ps.length
  run : ∀ (A : Around) (outer : List Env) (s : Shared) (H : Hp) (args : Args) (us : List Value) (vs : List V) (Q : VK) (E : XK), Room k A → GA A → Env0 P w K mg base A outer s H → BindsTo s fd args (ps.zip us) → Vals vs us → sp vs H Q E →
    codeAny (model P w) A (.call (.ref f) args) (CR CX0 outer P w H s Q E) s
theorem FnG.of {P : Program} {w : World} {K : PySem.W.Frag} {mg : Str → Option Value} {base : Heap} {k : Nat} {f : Addr} {fd : FuncData} {ps : List Str} {sp : Sp} (F : FnOk P w K mg base CX0 k f fd ps sp) : FnG P w K mg base k f fd ps sp :=
  ⟨F.len, fun A outer s H args us vs Q E hr _ => F.run A outer s H args us vs Q E hr⟩
theorem FnG.mono {P : Program} {w : World} {K : PySem.W.Frag} {mg : Str → Option Value} {base : Heap} {j k : Nat} {f : Addr} {fd : FuncData} {ps : List Str} {sp : Sp} (F : FnG P w K mg base j f fd ps sp) (h : j ≤ k) : FnG P w K mg base k f fd ps sp :=
  ⟨F.len, fun A outer s H args us vs Q E hr => F.run A outer s H args us vs Q E (hr.mono h)⟩
section
variable {X : Cx} {k : Nat} {f C : Addr} {fd : FuncData} {ps ks : List Str} {sp : Sp} {dvs : List V} {ds : List Value} {x m : Str} {p pos apos : Pos} {e o : Expr} {es : List Expr} {kws : List Keyword} {ta : TE} {t tk : TA}
  {g : List Value → List Value → List Value} {gV : List V → List V → List V}
theorem run_fng {pins : List (Addr × Obj)} {σ : L2.St} {H : Hp} {s : Shared} {Q : VK} {us : List Value} {vs : List V} (F : FnG X.prog X.w X.K X.mg X.base k f fd ps sp) (hr : Room k X.A) (ga : GA X.A) (hb : Binds X.K fd ps ds) (hd : Vals dvs ds)
    (I : Inv X pins σ H s) (r : Vals vs us) (h : sp (vs ++ dvs) H Q E0) : wpAny (model X.prog X.w) X.A (call (.ref f) us) (EP X pins σ Q) X.xe s := by
  have r2 : Vals (vs ++ dvs) (us ++ ds) := r.append hd
  have hl : (us ++ ds).length = ps.length := by rw [← r2.length]; exact F.len _ _ _ _ h
  refine wpAny_call (codeAny_mono (F.run X.A X.stack s H ⟨us, []⟩ (us ++ ds) (vs ++ dvs) Q E0 hr ga I.env0 (hb s us I.kIn hl) r2 h) fun r s' hq => ?_)
  cases r with
  | error e => exact False.elim hq
  | ok fl =>
    cases fl with
    | ret u => exact I.after hq
    | next => exact False.elim hq
    | brk => exact False.elim hq
    | cont => exact False.elim hq
theorem run_fngk {pins : List (Addr × Obj)} {σ : L2.St} {H : Hp} {s : Shared} {Q : VK} {us ws : List Value} {vs zs : List V} (F : FnG X.prog X.w X.K X.mg X.base k f fd ps sp) (hr : Room k X.A) (ga : GA X.A) (hb : KBinds X.K fd ps ks g gV)
    (I : Inv X pins σ H s) (r : Vals vs us) (rz : Vals zs ws) (h : sp (gV vs zs) H Q E0) : wpAny (model X.prog X.w) X.A (call (.ref f) us (ks.zip ws)) (EP X pins σ Q) X.xe s := by
  have r2 := hb.rel r rz
  have hl : (g us ws).length = ps.length := by rw [← r2.length]; exact F.len _ _ _ _ h
  refine wpAny_call (codeAny_mono (F.run X.A X.stack s H ⟨us, ks.zip ws⟩ (g us ws) (gV vs zs) Q E0 hr ga I.env0 (hb.to s us ws I.kIn hl) r2 h) fun r s' hq => ?_)
  cases r with
  | error e => exact False.elim hq
  | ok fl =>
    cases fl with
    | ret u => exact I.after hq
    | next => exact False.elim hq
    | brk => exact False.elim hq
    | cont => exact False.elim hq
end
/-- a def of the module, by its name -/
structure Cg (P : Program) (w : World) (K : PySem.W.Frag) (mg : Str → Option Value) (base : Heap) (k : Nat) (x : Str) (ps : List Str) (sp : Sp) (dvs : List V) : Prop where
  ex : ∃ (f : Addr) (fd : FuncData) (ds : List Value), FnG P w K mg base k f fd ps sp ∧ mg x = some (.ref f) ∧ PySem.W.keepIn K (.ref f) = true ∧ Binds K fd ps ds ∧ Vals dvs ds
section
variable {X : Cx} {k j : Nat} {f C : Addr} {fd : FuncData} {ps ks : List Str} {sp : Sp} {dvs : List V} {ds : List Value} {x m : Str} {p pos apos : Pos} {e o : Expr} {es : List Expr} {kws : List Keyword} {ta : TE} {t tk : TA}
theorem pe_g (c : Cg X.prog X.w X.K X.mg X.base k x ps sp dvs) (hr : Room j X.A) (ga : GA X.A) (hk : k ≤ j) (hg : Gl X x) (ha : PA X (e :: es) t)
    (hdb : (x == ("__debug__" : Str)) = false := by decide) (he : starEach (e :: es) X.env = (false, eval e X.env) :: starEach es X.env := by rfl) (hpl : (backTo pos (starEach es X.env)).any (·.1) = false := by rfl) :
    PE X (.Call (.Name x p) (e :: es) [] pos) (tCall sp dvs E0 t) := by
  obtain ⟨f, fd, ds, F, hm, kp, hb, hd⟩ := c.ex
  refine ⟨fun pins s σ H Q I h => ?_⟩
  refine wpAny_Call_Name_kw (ld_glob I hg hm ?_ hdb)
  exact PySem.W.callWith_K (h₀ := X.base) I.ok.mod.kin kp (thn (ha.run pos pins s σ H _ I h) fun us s1 ⟨vs, H1, I1, r, q⟩ => ⟨I1.kIn, run_fng F (hr.mono hk) ga hb hd I1 r q⟩) he hpl
theorem pe_g0 (c : Cg X.prog X.w X.K X.mg X.base k x ps sp dvs) (hr : Room j X.A) (ga : GA X.A) (hk : k ≤ j) (hg : Gl X x) (hdb : (x == ("__debug__" : Str)) = false := by decide) : PE X (.Call (.Name x p) [] [] pos) (tCall sp dvs E0 tNil) := by
  obtain ⟨f, fd, ds, F, hm, kp, hb, hd⟩ := c.ex
  refine ⟨fun pins s σ H Q I h => ?_⟩
  refine wpAny_Call_Name_kw (ld_glob I hg hm ?_ hdb)
  exact PySem.W.callWith_K0 I.kIn kp (run_fng (us := []) F (hr.mono hk) ga hb hd I .nil h)
end
section
variable {P : Program} {w : World} {K : PySem.W.Frag} {mg : Str → Option Value} {base : Heap}
/-- THE RULE for a def where no repr is running -/
theorem fng_of {k : Nat} {f : Addr} {name qual : Str} {params : Arguments} {body : List Stmt} {scope : Scope} {dV kV doc pm cdv ct oc : Value} {an od : Option Addr}
    {osl : Array (Option Value)} {N ps : List Str} {sp : Sp} (lk : K.lookup f = some ⟨oc, od, .func (PySem.W.fnOf name qual params body scope dV kV doc pm an cdv ct), osl⟩) (hcd : PySem.W.codeIn K cdv qual = true) (S : FnScope N ps scope)
    (len : ∀ vs H Q E, sp vs H Q E → vs.length = ps.length)
    (hbody : ∀ (A : Around) (outer : List Env) (s : Shared) (H : Hp) (vs : List V) (Q : VK) (E : XK), Room k (A.deeper (envOfC qual scope s.heap.objs.size f cdv)) → GA (A.deeper (envOfC qual scope s.heap.objs.size f cdv)) → sp vs H Q E →
      ∃ t, PSs (cxOf CX0 P w K mg base N qual scope f cdv A outer s H E) body t ∧ t { nx := fun _ H' => Q .non H', rt := Q } (start N vs) H) :
    FnG P w K mg base (k + 1) f (PySem.W.fnOf name qual params body scope dV kV doc pm an cdv ct) ps sp := by
  refine ⟨len, fun A outer s H args us vs Q E hr ga e0 hb r hsp => ?_⟩
  have hl := len _ _ _ _ hsp
  have KX : K.In s.heap := e0.mod.kin.keeps fun b o e => (e0.bs b o e).1
  have lim : s.heap.NoLimit := e0.mod.nolimit.keeps fun b o e => (e0.bs b o e).1
  have hkind : ∀ y ∈ ps.zip us, scope.names.lookup y.1 = some .local ∨ (scope.names.lookup y.1 = some .cell ∧ ((cellsFrom (s.heap.objs.size + 1) scope.names []).lookup y.1).isSome = true) := fun ⟨n, v⟩ hy => by
    rcases S.par n (List.of_mem_zip hy).1 with q | q
    · exact .inl q
    · exact .inr ⟨q, PySem.W.cellsFrom_some _ _ _ (.inl q)⟩
  refine codeAny_call_function hr.depth (KX _ _ lk) rfl S.co S.gen rfl (PySem.W.codeRec_of KX hcd) (hb _ _ _ _ ?_)
  refine wpAny_newFunctionEnv_cells S.kind hkind fun env he s1 x => ?_
  subst he
  refine ⟨lim.keeps x.toInCall.keep, codeAny_func ?_⟩
  obtain ⟨t, ht, hq⟩ := hbody A outer s H vs Q E (hr.deeper _) (ga_deeper ga) hsp
  have I : Inv (cxOf CX0 P w K mg base N qual scope f cdv A outer s H E) [] (start N vs) H s1 := inv_start S hr.hd e0 hl r x
  refine wpAny_mono (ht.run [] s1 (start N vs) H _ I hq) (fun fl s' hs => ?_) fun e s' hs => hs
  have fin : ∀ {σ' : L2.St} {H' : Hp} {v : V} {u : Value}, Inv (cxOf CX0 P w K mg base N qual scope f cdv A outer s H E) [] σ' H' s' → RelV v u → Q v H' → CE outer P w H s Q u s' :=
    fun {σ' H' v u} J rv q => ⟨v, H', J.os, J.bare, J.base, J.hok, rv, q⟩
  cases fl with
  | ret u =>
    obtain ⟨v, σ', H', J, rv, q⟩ := hs
    exact fin J rv q
  | next =>
    obtain ⟨σ', H', J, q⟩ := hs
    exact fin (v := V.non) (u := Value.none) J rfl q
  | brk =>
    obtain ⟨_, _, _, q⟩ := hs
    exact False.elim q
  | cont =>
    obtain ⟨_, _, _, q⟩ := hs
    exact False.elim q
theorem okG {x qual : Str} {st : Stmt} {f : Addr} {fd : FuncData} {N ps : List Str} {k : Nat} {sp : Sp} (F : Fun K x qual st f fd) (S : FnScope N ps (defScope st)) (len : ∀ vs H Q E, sp vs H Q E → vs.length = ps.length)
    (hbody : ∀ (cdv : Value) (A : Around) (outer : List Env) (s : Shared) (H : Hp) (vs : List V) (Q : VK) (E : XK), Room k (A.deeper (envOfC qual (defScope st) s.heap.objs.size f cdv)) → GA (A.deeper (envOfC qual (defScope st) s.heap.objs.size f cdv)) → sp vs H Q E →
      ∃ t, PSs (cxOf CX0 P w K mg base N qual (defScope st) f cdv A outer s H E).nox (defBody st) t ∧ t { nx := fun _ H' => Q .non H', rt := Q } (start N vs) H) : FnG P w K mg base (k + 1) f fd ps sp := by
  obtain ⟨oc, od, kV, doc, pm, an, cdv, ct, osl, rfl, lk, hcd⟩ := F.ex
  refine fng_of lk hcd S len fun A outer s H vs Q E hr ga hsp => ?_
  obtain ⟨t, h, q⟩ := hbody cdv A outer s H vs Q E hr ga hsp
  exact ⟨t, h.nox, q⟩
end
end Mv
set_option Elab.async false
set_option maxRecDepth 100000
set_option maxHeartbeats 4000000
namespace PySem.W
open PySem PySem.Spec PySem.Calls PyProof.Rows
section
variable {prog : Program} {w : World} {A : Around} {E : Value → Shared → Prop} {s : Shared} {K : Frag} {x C f : Addr} {ox : Obj} {od : Option Obj} {b tb : Value}
/-- x != b by object.__ne__ over an own __eq__ -/
theorem mv_ne {Q : Value → Shared → Prop} (hu : A.units + 1 < cLine) (X : K.In s.heap) (I : InstAt s.heap x ox C od) (hb : Looks (model prog w) s.heap (typeOf b) tb) (hn : notFirst K C tb = true)
    (hne : findIn K (.ref C) "__ne__" = some (some (.builtin "object.__ne__"))) (hm : mroIn K C (.type "object") = some true) (hs : findIn K (.ref C) "__eq__" = some (some (.ref f))) (hf : isFn K (.ref f) = true)
    (h : wpAny (model prog w) A.in1 (call (.ref f) [.ref x, b]) (fun v s' => ∃ k, v = .bool k ∧ Q (.bool (!k)) s') E s) : wpAny (model prog w) A (richCompare .NotEq (.ref x) b) Q E s := by
  have one : wpAny (model prog w) A (tryCompare (.ref x) "__ne__" b) (fun r s' => ∃ v, r = some v ∧ Q v s') E s := by
    unfold tryCompare
    have inner : wpAny (model prog w) A (call (.builtin "object.__ne__") [.ref x, b]) (fun v s' => ∃ k, v = .bool k ∧ Q v s') E s := by
      refine wpAny_call (codeAny_call_builtin PySem.F.cmp_object.ne.plain PySem.F.cmpEntry_ne (check_slot (i := "object.__ne__") (owner := "object") (n := "__ne__") (by decide +kernel) (by decide +kernel) (I.type.andThen (looks_mroIn X hm)) (PySem.F.cmpArgs_ne _ _) ?_))
      unfold Builtin.«object.__ne__»
      refine wpAny_bind (m := slotArgs "__ne__" 1 _) (wpAny_pure ?_)
      refine wpAny_bind (m := cRoomFor _ _) (wpAny_cRoomFor hu ?_)
      refine wpAny_bind (m := callSpecialIfBound? (.ref x) (Str.ofString "__eq__") _) (ifBound_K X I hs hf (wpAny_mono h (fun r s' hq => ?_) fun _ _ y => y))
      obtain ⟨k, rfl, hq⟩ := hq
      exact wpAny_bind (wpAny_truthy_bool (wpAny_pure ⟨_, rfl, hq⟩))
    have sp : wpAny (model prog w) A (callSpecialIfBound? (.ref x) "__ne__" [b]) (fun r s' => ∃ k, r = some (.bool k) ∧ Q (.bool k) s') E s := by
      simp only [callSpecialIfBound?, bindSpecialIfBound?]
      refine wpAny_holding (wpAny_bind (wpAny_bind (wpAny_bind (I.type.here ((looks_findIn X hne).here ?_)))))
      simp only [PySem.F.cmp_object.ne.bind]
      refine wpAny_bind (wpAny_askSetting (wpAny_ite ?_))
      have fin : wpAny (model prog w) A (call (.builtin "object.__ne__") ([.ref x] ++ [b]) >>= fun v => pure (some v)) (fun r s' => ∃ k, r = some (.bool k) ∧ Q (.bool k) s') E s :=
        wpAny_bind (wpAny_mono inner (fun v s' h' => by obtain ⟨k, rfl, q⟩ := h'; exact wpAny_pure ⟨k, rfl, q⟩) fun _ _ h' => h')
      split
      · exact wpAny_bind (wpAny_pure (wpAny_pure fin))
      · exact wpAny_tryCatch (wpAny_bind (wpAny_pure (wpAny_pure fin)))
    refine wpAny_bind (wpAny_mono sp (fun r s' hr => ?_) fun _ _ e => e)
    obtain ⟨k, rfl, q⟩ := hr
    exact wpAny_pure ⟨_, rfl, q⟩
  unfold richCompare
  simp only [oneThing_ref]
  refine wpAny_holding (wpAny_bind (wpAny_cRoomFor (by omega) ?_))
  refine wpAny_bind (I.type.here (wpAny_bind (hb.here ?_)))
  split
  · rename_i q
    have e : subIn K tb (.ref C) = some false := by
      rcases Bool.or_eq_true_iff.mp hn with e | e
      · rw [beq_iff_eq.mp e] at q; simp at q
      · exact beq_iff_eq.mp e
    refine wpAny_bind ((looks_subIn X e).here ?_)
    simp only [Bool.false_eq_true, if_false]
    refine wpAny_bind (wpAny_mono one (fun r s' z => ?_) fun _ _ e => e)
    obtain ⟨v, rfl, hq⟩ := z
    exact wpAny_pure hq
  · refine wpAny_bind (wpAny_pure ?_)
    simp only [Bool.false_eq_true, if_false]
    refine wpAny_bind (wpAny_mono one (fun r s' z => ?_) fun _ _ e => e)
    obtain ⟨v, rfl, hq⟩ := z
    exact wpAny_pure hq
end
end PySem.W
namespace Mv
open PySem PySem.Spec PyProof.Rows L2
/-- a def called with the instance and one more, as an operator calls it -/
structure Op2 (P : Program) (w : World) (K : PySem.W.Frag) (mg : Str → Option Value) (base : Heap) (k : Nat) (C : Addr) (m : Str) (sp : Sp) : Prop where
  ex : ∃ (g : Addr) (fd : FuncData) (ps : List Str), FnOk P w K mg base CX0 k g fd ps sp ∧ Binds K fd ps [] ∧ PySem.W.findIn K (.ref C) m = some (some (.ref g)) ∧ PySem.W.isFn K (.ref g) = true
section
variable {X : Cx} {k : Nat} {C : Addr} {sp : Sp}
theorem run_at {A : Around} {pins : List (Addr × Obj)} {σ : L2.St} {H : Hp} {s : Shared} {Q : VK} {us : List Value} {vs : List V} {E' : Value → Shared → Prop} {g : Addr} {fd : FuncData} {ps : List Str} (F : FnOk X.prog X.w X.K X.mg X.base CX0 k g fd ps sp) (hr : Room k A) (hf : A.frames = some X.stack) (hb : Binds X.K fd ps [])
    (I : Inv X pins σ H s) (r : Vals vs us) (h : sp vs H Q E0) : wpAny (model X.prog X.w) A (call (.ref g) us) (EP X pins σ Q) E' s := by
  have hl : (us ++ []).length = ps.length := by rw [List.append_nil, ← r.length]; exact F.len _ _ _ _ h
  have b := hb s us I.kIn hl
  rw [List.append_nil] at b
  have e0 := I.env0
  refine wpAny_call (codeAny_mono (F.run A X.stack s H ⟨us, []⟩ us vs Q E0 hr ⟨hf, e0.mod, e0.bs, e0.bsz, e0.funs, e0.frf, e0.hok, e0.bare⟩ b r h) fun r s' hq => ?_)
  cases r with
  | error e => exact False.elim hq
  | ok fl =>
    cases fl with
    | ret u => exact I.after hq
    | next => exact False.elim hq
    | brk => exact False.elim hq
    | cont => exact False.elim hq
/-- x == y, x an instance of the class at C with an own __eq__ -/
def rEqO (K : PySem.W.Frag) (C : Addr) (sp : Sp) : R2 := fun x y H Q => ∃ a dx fs t, x = .ref a ∧ H a = some (.ins C dx fs) ∧ TyX K H y t ∧ PySem.W.notFirst K C t = true ∧ sp [x, y] H Q E0
def rNeO (K : PySem.W.Frag) (C : Addr) (sp : Sp) : R2 := fun x y H Q => ∃ a dx fs t, x = .ref a ∧ H a = some (.ins C dx fs) ∧ TyX K H y t ∧ PySem.W.notFirst K C t = true ∧ sp [x, y] H (fun v H' => ∃ k, v = .bl k ∧ Q (.bl (!k)) H') E0
theorem op_eqO (c : Op2 X.prog X.w X.K X.mg X.base k C "__eq__" sp) (hr : Room k X.A) : OpR X (compareOp .Eq) (rEqO X.K C sp) := by
  obtain ⟨g, fd, ps, F, hb, hs, hf⟩ := c.ex
  intro pins s σ H x y v u Q I rx ry h
  obtain ⟨a, dx, fs, t, rfl, ea, ty, hn, q⟩ := h
  obtain rfl : v = Value.ref a := rx
  obtain ⟨mA, O, _⟩ := ins_get I.hok ea
  obtain ⟨od, J, _⟩ := O.look
  obtain ⟨m, hF⟩ := I.fr
  obtain ⟨P, kx, hP, _⟩ := kit_of I ry ty
  show wpAny _ _ (richCompare .Eq _ _) _ _ _
  refine PySem.W.cmp_K (op := .Eq) hr.units0 hF I.ok.mod.kin J (kx.ty _ _ I.kIn hP) hn hs hf ?_
  refine wpAny_mono (run_at (vs := [.ref a, y]) F hr I.ok.frames hb I (.cons rfl (.cons ry .nil)) q) (fun w s' z => ?_) fun _ _ x => x
  obtain ⟨z', H', I', rz, qz⟩ := z
  exact SlX.cmpback rz ⟨z', H', I', rz, qz⟩
theorem op_neO (c : Op2 X.prog X.w X.K X.mg X.base k C "__eq__" sp) (hr : Room (k + 1) X.A) (hne : PySem.W.findIn X.K (.ref C) "__ne__" = some (some (.builtin "object.__ne__"))) (hm : PySem.W.mroIn X.K C (.type "object") = some true) :
    OpR X (compareOp .NotEq) (rNeO X.K C sp) := by
  obtain ⟨g, fd, ps, F, hb, hs, hf⟩ := c.ex
  intro pins s σ H x y v u Q I rx ry h
  obtain ⟨a, dx, fs, t, rfl, ea, ty, hn, q⟩ := h
  obtain rfl : v = Value.ref a := rx
  obtain ⟨mA, O, _⟩ := ins_get I.hok ea
  obtain ⟨od, J, _⟩ := O.look
  obtain ⟨P, kx, hP, _⟩ := kit_of I ry ty
  show wpAny _ _ (richCompare .NotEq _ _) _ _ _
  refine PySem.W.mv_ne (by have := hr.units; omega) I.kIn J (kx.ty _ _ I.kIn hP) hn hne hm hs hf ?_
  refine wpAny_mono (run_at (vs := [.ref a, y]) F hr.in1 I.ok.frames hb I (.cons rfl (.cons ry .nil)) q) (fun w s' z => ?_) fun _ _ x => x
  obtain ⟨z', H', I', rz, k', rfl, qz⟩ := z
  obtain rfl : w = Value.bool k' := rz
  exact ⟨k', rfl, .bl _, H', I', rfl, qz⟩
/-- repr(x), x an instance with an own __repr__ -/
def rReprO (C : Addr) (sp : Sp) : List V → Hp → VK → Prop := fun xs H Q => ∃ a dx fs, xs = [.ref a] ∧ H a = some (.ins C dx fs) ∧ sp [.ref a] H (fun v H' => ∃ z, v = .str z ∧ Q v H') E0
theorem call_reprO (c : Op2 X.prog X.w X.K X.mg X.base k C "__repr__" sp) (hr : Room (k + 1) X.A) : CallR X (.builtin "repr") (rReprO C sp) := by
  obtain ⟨g, fd, ps, F, hb, hs, hf⟩ := c.ex
  intro pins s σ H xs us Q I r h
  obtain ⟨a, dx, fs, rfl, ea, q⟩ := h
  obtain ⟨u, rfl, ru⟩ := vals1 r
  obtain rfl : u = Value.ref a := ru
  obtain ⟨mA, O, _⟩ := ins_get I.hok ea
  obtain ⟨od, J, _⟩ := O.look
  obtain ⟨m, hF⟩ := I.fr
  refine PySem.W.repr_K (by have := hr.units; show X.A.units + 1 < cLine; omega) hF I.ok.mod.kin J hs hf ?_
  refine wpAny_mono (run_at (vs := [.ref a]) F hr.in1 I.ok.frames hb I (.cons rfl .nil) q) (fun w s' z => ?_) fun _ _ x => x
  obtain ⟨z', H', I', rz, y, rfl, qz⟩ := z
  obtain ⟨tk, rfl⟩ := rz
  exact ⟨.str y, H', I', ⟨_, rfl⟩, qz⟩
/-- str(x), x an instance with an own __str__ -/
theorem call_strO (c : Op2 X.prog X.w X.K X.mg X.base k C "__str__" sp) (hr : Room (k + 2) X.A) : CallR X (.type "str") (rReprO C sp) := by
  obtain ⟨g, fd, ps, F, hb, hs, hf⟩ := c.ex
  intro pins s σ H xs us Q I r h
  obtain ⟨a, dx, fs, rfl, ea, q⟩ := h
  obtain ⟨u, rfl, ru⟩ := vals1 r
  obtain rfl : u = Value.ref a := ru
  obtain ⟨mA, O, _⟩ := ins_get I.hok ea
  obtain ⟨od, J, _⟩ := O.look
  have hr1 : Room (k + 1) X.A.in1 := hr.in1
  have hr2 : Room k X.A.in1.in1 := hr1.in1
  refine PySem.W.kso_call hr2.units0 I.kIn J hs hf ?_
  refine wpAny_mono (run_at (vs := [.ref a]) F hr2 I.ok.frames hb I (.cons rfl .nil) q) (fun w s' z => ?_) fun _ _ x => x
  obtain ⟨z', H', I', rz, y, rfl, qz⟩ := z
  obtain ⟨tk, rfl⟩ := rz
  exact ⟨.str y, H', I', ⟨_, rfl⟩, qz⟩
/-- repr of lists and tuples of data -/
def rReprD (K : PySem.W.Frag) : List V → Hp → VK → Prop := fun xs H Q => ∃ a d, xs = [.ref a] ∧ Dp K H (.ref a) d ∧ d.showable = true ∧ d.hasDict = false ∧ d.depth ≤ 60 ∧ d.shown.length ≤ sizeLine ∧ Q (.str d.shown) H
theorem call_reprD (ga : GA X.A) (hr : Room k X.A) : CallR X (.builtin "repr") (rReprD X.K) := by
  intro pins s σ H xs us Q I r h
  obtain ⟨a, d, rfl, hd, hs, hn, hz, hl, q⟩ := h
  obtain ⟨u, rfl, ru⟩ := vals1 r
  obtain rfl : u = Value.ref a := ru
  obtain ⟨as, rd⟩ := hd.reads I d _ _ rfl
  refine repr_of_reads' rd hs (fun z => absurd z (by rw [hn]; simp)) ga (by have := hr.units; omega) (fun _ _ e => e) (fun h' u tk hk => ?_) hl
  exact ⟨.str _, H, I.kept hk, ⟨_, rfl⟩, q⟩
end
end Mv
set_option Elab.async false
set_option maxRecDepth 100000
set_option maxHeartbeats 4000000
namespace Mv
open PySem PySem.Spec PyProof.Rows L2
theorem loop_frames {A : Around} {args : Args} : (A.under (.builtin "list.__repr__.loop" args)).frames = A.frames := by
  first | rfl | (simp [Around.under, Code.envs, Code.isFrame, pushEnvs])
theorem loop_room {A : Around} {k : Nat} {args : Args} (r : Room (k + 1) A) : Room k (A.under (.builtin "list.__repr__.loop" args)) :=
  ⟨r.hd, by
    have h := r.dp
    have e : (A.under (.builtin "list.__repr__.loop" args)).depth = A.depth + 1 := by
      first | rfl | simp [Around.under, Code.weight, Code.isCreation, Code.isGuard, Code.isCaller, Code.frames, Code.isFrame, guardIds]
    rw [e]; omega, by
    have h := r.un
    rw [units_under_list_loop]; omega⟩
/-- what repr of the value v is where it stands inside lists -/
def RepX (X : Cx) (H : Hp) (k : Nat) (v : V) (t : Str) : Prop :=
  ∀ (A : Around) (base : Nat), Room k A → A.frames = some X.stack → base + t.length ≤ sizeLine →
    ∀ (pins : List (Addr × Obj)) (s : Shared) (σ : L2.St) (u : Value) (Q : Str → Shared → Prop) (E : Value → Shared → Prop), RelV v u → Inv X pins σ H s → (∀ s', Inv X pins σ H s' → Q t s') →
      wpAny (model X.prog X.w) A (pyReprUnder base u) Q E s
section
variable {X : Cx} {k : Nat} {C : Addr} {sp : Sp} {H : Hp}
theorem RepX.own {a dx : Addr} {fs : List (Str × V)} {t : Str} (c : Op2 X.prog X.w X.K X.mg X.base k C "__repr__" sp) (ea : H a = some (.ins C dx fs))
    (hsp : ∀ Q : VK, Q (.str t) H → sp [.ref a] H Q E0) : RepX X H k (.ref a) t := by
  obtain ⟨g, fd, ps, F, hb, hs, hf⟩ := c.ex
  intro A base hr hfr hz pins s σ u Q E ru I hq
  obtain rfl : u = Value.ref a := ru
  obtain ⟨mA, O, _⟩ := ins_get I.hok ea
  obtain ⟨od, J, _⟩ := O.look
  refine wpAny_pyReprUnder_ref (by omega) ?_
  unfold pyReprObjUnder pyReprObjBy
  refine wpAny_bind (wpAny_cRoomFor hr.units0 ?_)
  refine wpAny_bind (wpAny_bind (J.type.here ((PySem.W.looks_findIn I.kIn hs).here ?_)))
  show wpAny _ _ (if (some (Value.ref g)).isNone = true then _ else _) _ _ _
  rw [if_neg (by simp)]
  have main : wpAny (model X.prog X.w) A (call (.ref g) [.ref a]) (fun v s' => ∃ u, v = .str t u ∧ Q t s') E s := by
    refine wpAny_mono (run_at (vs := [.ref a]) F hr hfr hb I (.cons rfl .nil) (hsp (fun v H' => v = .str t ∧ H' = H) ⟨rfl, rfl⟩)) (fun v s' z => ?_) fun _ _ x => x
    obtain ⟨z', H', I', rz, rfl, rfl⟩ := z
    obtain ⟨tk, rfl⟩ := rz
    exact ⟨tk, rfl, hq s' I'⟩
  have fin : wpAny (model X.prog X.w) A (callSpecialIfBoundBy? (fun g first => match reprUnder? g, first with
      | some twin, [self] => call twin [self, rawInt base]
      | _, _ => call g (first ++ [])) (.ref a) "__repr__") (fun r s' => ∃ u, r = some (.str t u) ∧ Q t s') E s := by
    simp only [callSpecialIfBoundBy?, bindSpecialIfBound?]
    refine wpAny_holding (wpAny_bind (wpAny_bind (wpAny_bind (J.type.here ((PySem.W.looks_findIn I.kIn hs).here ?_)))))
    refine wpAny_bind (wpAny_askSetting (wpAny_ite ?_))
    have m2 : wpAny (model X.prog X.w) A (call (.ref g) ([.ref a] ++ []) >>= fun v => pure (some v)) (fun r s' => ∃ u, r = some (.str t u) ∧ Q t s') E s :=
      wpAny_bind (wpAny_mono main (fun v s' h' => by obtain ⟨u, rfl, q⟩ := h'; exact wpAny_pure ⟨u, rfl, q⟩) fun _ _ h' => h')
    split
    · exact wpAny_bind ((PySem.W.bind_fn I.kIn _ (beq_iff_eq.mp hf)).here (wpAny_pure (by exact m2)))
    · exact wpAny_tryCatch (wpAny_bind ((PySem.W.bind_fn I.kIn _ (beq_iff_eq.mp hf)).here (wpAny_pure (by exact m2))))
  refine wpAny_bind (wpAny_mono fin (fun r s' hr' => ?_) fun _ _ e => e)
  obtain ⟨u, rfl, q⟩ := hr'
  exact wpAny_bind (wpAny_isInstance (T := "str") (b := true) rfl isSubtype_str_str (wpAny_pure ⟨_, _, rfl, q⟩))
/-- items and their texts -/
inductive RepAll (X : Cx) (H : Hp) (k : Nat) : List V → List Str → Prop
  | nil : RepAll X H k [] []
  | cons {v : V} {t : Str} {vs : List V} {ts : List Str} : RepX X H k v t → RepAll X H k vs ts → RepAll X H k (v :: vs) (t :: ts)
theorem RepAll.len : ∀ {vs : List V} {ts : List Str}, RepAll X H k vs ts → ts.length = vs.length
  | _, _, .nil => rfl
  | _, _, .cons _ h => by simp [h.len]
theorem RepAll.at : ∀ {vs : List V} {ts : List Str} {us : List Value} {i : Nat} {u : Value}, RepAll X H k vs ts → Vals vs us → us[i]? = some u → ∃ v t, ts[i]? = some t ∧ RelV v u ∧ RepX X H k v t
  | _, _, _, _, _, .nil, .nil, h => by simp at h
  | _, _, _, 0, _, .cons r _, .cons q _, h => by
    simp at h; subst h
    exact ⟨_, _, rfl, q, r⟩
  | _, _, _, i + 1, _, .cons _ r, .cons _ q, h => by
    obtain ⟨v, t, a, b, c⟩ := RepAll.at (i := i) r q (by simpa using h)
    exact ⟨v, t, by simpa using a, b, c⟩
abbrev partsObj (acc : Array Value) (c : Nat) : Obj := { cls := .type "list", dict := none, data := .seq acc c, slots := #[] }
theorem list_loop {a P : Addr} {vs : List V} {ts : List Str} {A : Around} {base : Nat} {R : Result → Shared → Prop} {σ : L2.St} {pins : List (Addr × Obj)} (hr : Room (k + 1) A) (hfr : A.frames = some X.stack)
    (ha : SqL X.K H a vs) (hT : RepAll X H k vs ts) (hsz : base + (listText ts).length ≤ sizeLine) (hP0 : X.s_0.heap.objs.size ≤ P) (hPL : P ≠ X.env.locals) (hPc : ∀ x c, X.env.cells.lookup x = some c → c ≠ P) (hPp : ∀ p ∈ X.pn ++ pins, p.1 ≠ P) (hPs : P ∉ X.fs)
    (hR : ∀ s' u, Inv X pins σ H s' → R (.ok (.ret (.str (listText ts) u))) s') :
    ∀ (n i : Nat) (s : Shared) (acc : Array Value) (c : Nat) (done : List (Str × Tok)), vs.length - i = n → i ≤ vs.length → Inv X ((P, partsObj acc c) :: pins) σ H s → acc.toList = strValues done → done.map (·.1) = ts.take i →
    codeAny (model X.prog X.w) A (.builtin "list.__repr__.loop" ⟨[.ref a, rawInt i, .ref P, rawInt ((base + piled (ts.take i) : Nat) : Int)], []⟩) R s := by
  have hlen := hT.len
  have hX : (listText ts).length = (textFrom 0 "[" ts).length + 1 := by
    show (textFrom 0 "[" ts ++ "]").length = _
    rw [strLen_append]; rfl
  have hL := textFrom_len ts 0 "["
  have hsz1 : vs.length ≤ sizeLine := by
    have h1 := hL.1
    rw [if_neg (Nat.lt_irrefl 0)] at h1
    omega
  have hsz2 : ∀ t ∈ ts, t.length ≤ sizeLine := fun t ht => by
    have h2 := hL.2.1 t ht
    omega
  have hp3 := piled_le_listText ts
  intro n
  induction n with
  | zero =>
    intro i s acc c done hk hi I hacc hdone
    obtain ⟨its, rv, ⟨oa, na, hoa, _, _, hda⟩, _⟩ := I.list ha
    have hin : i = vs.length := by omega
    have hPo := ClX.pin_at I
    refine codeAny_builtin F.entry_list_repr_loop ?_
    show wpAny _ _ (Builtin.«list.__repr__.loop» ⟨[.ref a, .int i 0, .ref P, .int ((base + piled (ts.take i) : Nat) : Int) 0], []⟩) _ _ s
    rw [repr_loop_tree]
    refine wpAny_bind (wpAny_listItems hoa hda ?_)
    have hnone : its.toArray[(i : Int).toNat]? = none := by
      have := rv.length
      simp; omega
    simp only [hnone]
    unfold reprEnd
    refine wpAny_bind (wpAny_listItems hPo rfl ?_)
    rw [hacc, repr_fold]
    refine wpAny_bind (wpAny_pure ?_)
    have hall : done.map (·.1) = ts := by rw [hdone, hin, ← hlen, List.take_length]
    rw [hall]
    refine wpAny_bind (wpAny_mkStr (wpAny_pure ?_) (show (listText ts).length ≤ sizeLine by omega))
    exact hR _ _ ((ClX.unpin I).tok _)
  | succ n ih =>
    intro i s acc c done hk hi I hacc hdone
    obtain ⟨its, rv, ⟨oa, na, hoa, _, _, hda⟩, _⟩ := I.list ha
    have hil : i < its.length := by have := rv.length; omega
    obtain ⟨v, t, ht, rvu, hrep⟩ := hT.at (i := i) (u := its[i]) rv (by simp [hil])
    have hp1 := piled_take_succ ht
    have hp2 := piled_take_le ts (i + 1)
    refine codeAny_builtin F.entry_list_repr_loop ?_
    show wpAny _ _ (Builtin.«list.__repr__.loop» ⟨[.ref a, .int i 0, .ref P, .int ((base + piled (ts.take i) : Nat) : Int) 0], []⟩) _ _ s
    rw [repr_loop_tree]
    refine wpAny_bind (wpAny_listItems hoa hda ?_)
    have hsome : its.toArray[(i : Int).toNat]? = some its[i] := by simp [hil]
    simp only [hsome]
    rw [Int.toNat_natCast]
    refine wpAny_bind (wpAny_holding (hrep _ (base + piled (ts.take i) + 1) (loop_room hr) (loop_frames.trans hfr) (by omega) _ _ σ _ _ _ rvu I fun s1 I1 => ?_))
    refine wpAny_bind (wpAny_mkStr ?_ (hsz2 t (List.mem_of_getElem? ht)))
    refine wpAny_bind ?_
    show wpAny _ _ (updateSeq P _) _ _ _
    have hasz : acc.size ≤ sizeLine := by
      have e1 : acc.toList.length = acc.size := by simp
      have e2 : (strValues done).length = done.length := by simp [strValues]
      have e3 : done.length = (ts.take i).length := by rw [← hdone, List.length_map]
      have e4 : (ts.take i).length ≤ i := by rw [List.length_take]; omega
      rw [hacc] at e1; omega
    have I2 := I1.tok (s1.toks + 1)
    have hPn : H P = none := ClX.pin_un I1
    have hP2 : ({ s1 with toks := s1.toks + 1 } : Shared).heap.get? P = some (partsObj acc c) := ClX.pin_at I1
    refine wpAny_updateSeq hP2 rfl (wpAny_pure ⟨F.quiet_list_repr_loop _, ?_⟩) hasz
    have e1 : ((i : Int) + 1) = ((i + 1 : Nat) : Int) := by omega
    have e2 : base + piled (ts.take i) + (t.length + 2) = base + piled (ts.take (i + 1)) := by omega
    rw [e1, e2]
    have hup : ∃ c', (s1.heap.update P (Obj.mapSeq (·.push (.str t s1.toks)))).get? P = some (partsObj (acc.push (.str t s1.toks)) c') := ⟨_, Heap.get?_update_self _ (ClX.pin_at I1) rfl⟩
    obtain ⟨c', hup⟩ := hup
    refine ih (i + 1) _ (acc.push (.str t s1.toks)) c' (done ++ [(t, s1.toks)]) (by omega) (by omega) ?_ (by simp [hacc, strValues]) (by simp [List.take_add_one, ht, hdone])
    have I3 := (ClX.unpin I2).turned (t' := s1.toks + 1) (it := P) (h' := s1.heap.update P (Obj.mapSeq (·.push (.str t s1.toks)))) (fun b o hb e => (Heap.get?_update_other _ _ (fun h : P = b => hb h.symm)).trans e) (ClX.pin_un I1) hPL (.inr hP0) hPc hPp
    refine I3.pins_of fun p hp => ?_
    rcases List.mem_cons.mp hp with e | e
    · subst e
      refine ⟨hup, hPn, hPL, hPs, fun v z => nomatch z⟩
    · exact I3.pin p (List.mem_append_right _ e)
/-- repr of a list whose items have such texts -/
def rReprL (X : Cx) (k : Nat) : List V → Hp → VK → Prop := fun xs H Q => ∃ a v vs ts, xs = [.ref a] ∧ SqL X.K H a (v :: vs) ∧ RepAll X H k (v :: vs) ts ∧ (listText ts).length ≤ sizeLine ∧ Q (.str (listText ts)) H
theorem call_reprL (ga : GA X.A) (hr : Room (k + 2) X.A) : CallR X (.builtin "repr") (rReprL X k) := by
  intro pins s σ H xs us Q I r h
  obtain ⟨a, v, vs, ts, rfl, hS, hT, hz, q⟩ := h
  obtain ⟨u, rfl, ru⟩ := vals1 r
  obtain rfl : u = Value.ref a := ru
  obtain ⟨its, rv, ⟨oa, na, hoa, hc, hd, hda⟩, _⟩ := I.list hS
  obtain ⟨i0, irest, rfl⟩ : ∃ i0 irest, its = i0 :: irest := by
    cases rv with
    | cons _ _ => exact ⟨_, _, rfl⟩
  have hTy : s.TypeIs (.ref a) "list" := ⟨oa, hoa, hc⟩
  have hr1 : Room (k + 1) X.A.in1 := hr.in1
  refine call_repr_slot (by have := hr.units; omega) hTy F.slot_list_repr.toG ?_
  refine wpAny_call (codeAny_call_builtin F.slot_list_repr.plain F.entry_list_repr (F.slot_list_repr.check _ _ _ _ _ _ _ _ hTy (F.args_list_repr_1 _) ?_))
  refine wpAny_list_repr_head (A := X.A.in1.in1) (b := 0) (g := []) ga (fun _ _ _ z => nomatch z) hoa hda ?_
  refine wpAny_bind (m := newList []) (wpAny_newObj_type ?_)
  refine wpAny_pure ⟨F.quiet_list_repr_loop _, ?_⟩
  have I1 : Inv X ((s.heap.objs.size, partsObj #[] 0) :: pins) σ H { s with heap := s.heap.push (partsObj #[] 0), toks := s.toks } :=
    ClX.pin_new I (fun _ _ z => Heap.get?_push_of_some _ z) (Nat.le_refl _) (Heap.get?_push_size s.heap rfl) (fun v z => nomatch z)
  refine list_loop (P := s.heap.objs.size) (base := 0) (pins := pins) (σ := σ) hr1 I.ok.frames hS hT (by omega) I.sz (Nat.ne_of_gt I.lt) (fun x c e => ?_) (fun p hp => ?_) (I.nofs (Nat.le_refl _)) (fun s' u I' => ?_) _ 0 _ #[] 0 [] rfl (Nat.zero_le _) I1 rfl (by simp)
  · obtain ⟨_, ob, hob, _⟩ := I.cell x c e
    exact Nat.ne_of_lt (Heap.lt_size hob)
  · exact Nat.ne_of_lt (Heap.lt_size (I.pin p hp).1)
  · exact ⟨_, _, rfl, .str _, H, I', ⟨_, rfl⟩, q⟩
end
end Mv
set_option Elab.async false
set_option maxRecDepth 100000
set_option maxHeartbeats 4000000
namespace Mv
open PySem PySem.Spec PyProof.Rows L2
/-- a def of the text, its defaults dvs -/
abbrev Df (K : PySem.W.Frag) (x qual : Str) (st : Stmt) (dvs : List V) (f : Addr) (fd : FuncData) : Prop := FunD K x qual (defArgs st) (defBody st) (defScope st) dvs [] f fd
section
variable {P : Program} {w : World} {K : PySem.W.Frag} {mg : Str → Option Value} {base : Heap}
theorem Df.mk0 {x qual : Str} {st : Stmt} {f : Addr} {oc : Value} {od an : Option Addr} {osl : Array (Option Value)} {kV doc pm cdv ct : Value} (l : K.lookup f = some ⟨oc, od, .func (PySem.W.fnOf x qual (defArgs st) (defBody st) (defScope st) .none kV doc pm an cdv ct), osl⟩)
    (c : PySem.W.codeIn K cdv qual = true) (k : PySem.W.keepIn K (.ref f) = true) : Df K x qual st [] f (PySem.W.fnOf x qual (defArgs st) (defBody st) (defScope st) .none kV doc pm an cdv ct) :=
  ⟨⟨oc, od, .none, kV, doc, pm, an, cdv, ct, osl, rfl, l, c, .inl ⟨rfl, rfl⟩, .inl rfl⟩, k⟩
theorem dfOk {x qual : Str} {st : Stmt} {dvs : List V} {f : Addr} {fd : FuncData} {N ps : List Str} {k : Nat} {sp : Sp} (F : Df K x qual st dvs f fd) (S : FnScope N ps (defScope st)) (len : ∀ vs H Q E, sp vs H Q E → vs.length = ps.length)
    (hbody : ∀ (cdv : Value) (A : Around) (outer : List Env) (s : Shared) (H : Hp) (vs : List V) (Q : VK) (E : XK), Room k (A.deeper (envOfC qual (defScope st) s.heap.objs.size f cdv)) → sp vs H Q E →
      ∃ t, PSs (cxOf CX0 P w K mg base N qual (defScope st) f cdv A outer s H E).nox (defBody st) t ∧ t { nx := fun _ H' => Q .non H', rt := Q } (start N vs) H) : FnOk P w K mg base CX0 (k + 1) f fd ps sp :=
  FunD.ok F S len fun cdv A outer s H vs Q E hr h => let ⟨t, h1, h2⟩ := hbody cdv A outer s H vs Q E hr h; ⟨t, h1.nox, h2⟩
theorem dfG {x qual : Str} {st : Stmt} {dvs : List V} {f : Addr} {fd : FuncData} {N ps : List Str} {k : Nat} {sp : Sp} (F : Df K x qual st dvs f fd) (S : FnScope N ps (defScope st)) (len : ∀ vs H Q E, sp vs H Q E → vs.length = ps.length)
    (hbody : ∀ (cdv : Value) (A : Around) (outer : List Env) (s : Shared) (H : Hp) (vs : List V) (Q : VK) (E : XK), Room k (A.deeper (envOfC qual (defScope st) s.heap.objs.size f cdv)) → GA (A.deeper (envOfC qual (defScope st) s.heap.objs.size f cdv)) → sp vs H Q E →
      ∃ t, PSs (cxOf CX0 P w K mg base N qual (defScope st) f cdv A outer s H E).nox (defBody st) t ∧ t { nx := fun _ H' => Q .non H', rt := Q } (start N vs) H) : FnG P w K mg base (k + 1) f fd ps sp := by
  obtain ⟨oc, od, dV, kV, doc, pm, an, cdv, ct, osl, rfl, lk, hcd, _, _⟩ := F.ex
  refine fng_of lk hcd S len fun A outer s H vs Q E hr ga hsp => ?_
  obtain ⟨t, h, q⟩ := hbody cdv A outer s H vs Q E hr ga hsp
  exact ⟨t, h.nox, q⟩
theorem Df.bind {x qual : Str} {st : Stmt} {f : Addr} {fd : FuncData} {ps : List Str} (F : Df K x qual st [] f fd)
    (h : ∀ (kV doc pm : Value) (an : Option Addr) (cdv ct : Value) (us : List Value), us.length = ps.length → bindArgs (PySem.W.fnOf x qual (defArgs st) (defBody st) (defScope st) .none kV doc pm an cdv ct) ⟨us, []⟩ = pure (ps.zip us)) : Binds K fd ps [] := by
  obtain ⟨oc, od, dV, kV, doc, pm, an, cdv, ct, osl, rfl, lk, hcd, hd, _⟩ := F.ex
  rcases hd with ⟨_, e⟩ | ⟨e, _⟩
  · subst e
    exact .all (h kV doc pm an cdv ct)
  · exact absurd rfl e
end
/-- a def called by its name -/
structure Ca (P : Program) (w : World) (K : PySem.W.Frag) (mg : Str → Option Value) (base : Heap) (k : Nat) (x : Str) (sp : Sp) (dvs : List V) : Prop where
  ex : ∃ (f : Addr) (fd : FuncData) (ps : List Str) (ds : List Value), FnOk P w K mg base CX0 k f fd ps sp ∧ mg x = some (.ref f) ∧ PySem.W.keepIn K (.ref f) = true ∧ Binds K fd ps ds ∧ Vals dvs ds
/-- a class made by its name; C its address, sp the promise of its __init__ -/
structure Ma (P : Program) (w : World) (K : PySem.W.Frag) (mg : Str → Option Value) (base : Heap) (k : Nat) (x : Str) (C : Addr) (sp : Sp) (dvs : List V) : Prop where
  ex : ∃ (f : Addr) (fd : FuncData) (ps : List Str) (ds : List Value), Mk K C f ∧ FnOk P w K mg base CX0 k f fd ps sp ∧ mg x = some (.ref C) ∧ Binds K fd ps ds ∧ Vals dvs ds
/-- .. by keywords alone -/
structure MaK (P : Program) (w : World) (K : PySem.W.Frag) (mg : Str → Option Value) (base : Heap) (k : Nat) (x : Str) (C : Addr) (sp : Sp) (ks : List Str) (gV : List V → List V → List V) : Prop where
  ex : ∃ (f : Addr) (fd : FuncData) (ps : List Str) (g : List Value → List Value → List Value), Mk K C f ∧ FnOk P w K mg base CX0 k f fd ps sp ∧ mg x = some (.ref C) ∧ KBn K fd ps 1 ks g gV
/-- a method -/
structure Me (P : Program) (w : World) (K : PySem.W.Frag) (mg : Str → Option Value) (base : Heap) (k : Nat) (C : Addr) (m : Str) (sp : Sp) (dvs : List V) : Prop where
  ex : ∃ (f : Addr) (fd : FuncData) (ps : List Str) (ds : List Value), Cls K C ∧ Meth K C m f ∧ FnOk P w K mg base CX0 k f fd ps sp ∧ Binds K fd ps ds ∧ Vals dvs ds
/-- a property -/
structure Pr (P : Program) (w : World) (K : PySem.W.Frag) (mg : Str → Option Value) (base : Heap) (k : Nat) (C : Addr) (m : Str) (sp : Sp) : Prop where
  ex : ∃ (p g : Addr) (fd : FuncData) (ps : List Str), Cls K C ∧ PropOf K C m p g ∧ FnOk P w K mg base CX0 k g fd ps sp ∧ Binds K fd ps []
section
variable {X : Cx} {k j : Nat} {C : Addr} {x m : Str} {sp : Sp} {dvs : List V} {p pos apos : Pos} {e o : Expr} {es : List Expr} {ta : TE} {t tk : TA} {ks : List Str} {gV : List V → List V → List V} {kws : List Keyword}
theorem pe_ca (c : Ca X.prog X.w X.K X.mg X.base k x sp dvs) (hr : Room j X.A) (hk : k ≤ j) (hg : Gl X x) (ha : PA X (e :: es) t)
    (hdb : (x == ("__debug__" : Str)) = false := by decide) (he : starEach (e :: es) X.env = (false, eval e X.env) :: starEach es X.env := by rfl) (hpl : (backTo pos (starEach es X.env)).any (·.1) = false := by rfl) :
    PE X (.Call (.Name x p) (e :: es) [] pos) (tCall sp dvs E0 t) := by
  obtain ⟨f, fd, ps, ds, F, hm, kp, b, d⟩ := c.ex
  exact pe_call F (hr.mono hk) hg hm kp b d pass0 ha hdb he hpl
theorem pe_ma (c : Ma X.prog X.w X.K X.mg X.base k x C sp dvs) (hr : Room j X.A) (hk : k + 1 ≤ j) (hg : Gl X x) (ha : PA X (e :: es) t)
    (hdb : (x == ("__debug__" : Str)) = false := by decide) (he : starEach (e :: es) X.env = (false, eval e X.env) :: starEach es X.env := by rfl) (hpl : (backTo pos (starEach es X.env)).any (·.1) = false := by rfl) :
    PE X (.Call (.Name x p) (e :: es) [] pos) (tMake C sp dvs E0 t) := by
  obtain ⟨f, fd, ps, ds, M, F, hm, b, d⟩ := c.ex
  exact pe_make M F (hr.mono hk) hg hm b d pass0 ha hdb he hpl
theorem pe_me {pl : Sem Bool} (c : Me X.prog X.w X.K X.mg X.base k C m sp dvs) (hr : Room j X.A) (hk : k ≤ j) (he : PE X o ta) (ha : PA X (e :: es) t)
    (hst : starEach (e :: es) X.env = (false, eval e X.env) :: starEach es X.env := by rfl) (hpl : (backTo pos (starEach es X.env)).any (·.1) = false := by rfl)
    (ht : eval (.Call (.Attribute o m apos) (e :: es) [] pos) X.env = (do
      let ov ← eval o X.env
      standAt apos.atName
      let (f, first) ← holding [ov] (getMethod ov m pl)
      callWith pos f first (backTo pos (starEach (e :: es) X.env)) (backToKw pos (keywordEach [] X.env))) := by rfl) :
    PE X (.Call (.Attribute o m apos) (e :: es) [] pos) (tMeth C m sp dvs E0 ta t) := by
  obtain ⟨f, fd, ps, ds, hc, hm, F, b, d⟩ := c.ex
  exact pe_meth (pl := pl) he hc hm F (hr.mono hk) b d pass0 ha hst hpl ht
theorem pe_me0 {pl : Sem Bool} (c : Me X.prog X.w X.K X.mg X.base k C m sp dvs) (hr : Room j X.A) (hk : k ≤ j) (he : PE X o ta)
    (ht : eval (.Call (.Attribute o m apos) [] [] pos) X.env = (do
      let ov ← eval o X.env
      standAt apos.atName
      let (f, first) ← holding [ov] (getMethod ov m pl)
      callWith pos f first (backTo pos (starEach [] X.env)) (backToKw pos (keywordEach [] X.env))) := by rfl) :
    PE X (.Call (.Attribute o m apos) [] [] pos) (tMeth C m sp dvs E0 ta tNil) := by
  obtain ⟨f, fd, ps, ds, hc, hm, F, b, d⟩ := c.ex
  exact pe_meth0 (pl := pl) he hc hm F (hr.mono hk) b d pass0 ht
theorem pe_pr (c : Pr X.prog X.w X.K X.mg X.base k C m sp) (hr : Room j X.A) (hk : k + 1 ≤ j) (he : PE X e ta)
    (hab : attributeBase e m X.env (eval e X.env) = eval e X.env := by rfl) : PE X (.Attribute e m pos) (tProp C sp [] E0 ta) := by
  obtain ⟨p, g, fd, ps, hc, hp, F, b⟩ := c.ex
  exact pe_prop he hc hp F (hr.mono hk) b .nil pass0 hab
theorem pe_mak (c : MaK X.prog X.w X.K X.mg X.base k x C sp ks gV) (hr : Room j X.A) (hk : k + 1 ≤ j) (hg : Gl X x) (hkw : PK X kws tk)
    (hall : (backToKw pos (keywordEach kws X.env)).all (·.1.isSome) = true := by rfl) (hks : (backToKw pos (keywordEach kws X.env)).filterMap (·.1) = ks := by rfl)
    (hdb : (x == ("__debug__" : Str)) = false := by decide) (hpl : ((backTo pos (starEach [] X.env)).any (·.1) || (backToKw pos (keywordEach kws X.env)).any (·.1.isNone)) = false := by rfl) :
    PE X (.Call (.Name x p) [] kws pos) (tMakeK C 0 ks.length sp gV E0 tNil tk) := by
  obtain ⟨f, fd, ps, g, M, F, hm, b⟩ := c.ex
  exact pe_makeK0 M F (hr.mono hk) hg hm b pass0 hkw hall hks hdb hpl
end
section
variable {K : PySem.W.Frag}
/-- keywords of a def without defaults -/
theorem Df.kbn {x qual : Str} {st : Stmt} {f : Addr} {fd : FuncData} {ps : List Str} (F : Df K x qual st [] f fd) (n : Nat) (ks : List Str) (g : {α : Type} → List α → List α → List α)
    (hrel : ∀ {vs zs : List V} {us ws : List Value}, Vals vs us → Vals zs ws → Vals (g vs zs) (g us ws))
    (h : ∀ (kV doc pm : Value) (an : Option Addr) (cdv ct : Value) (us ws : List Value), us.length = n → ws.length = ks.length → bindArgs (PySem.W.fnOf x qual (defArgs st) (defBody st) (defScope st) .none kV doc pm an cdv ct) ⟨us, ks.zip ws⟩ = pure (ps.zip (g us ws))) :
    KBn K fd ps n ks (fun us ws => g us ws) (fun vs zs => g vs zs) := by
  obtain ⟨oc, od, dV, kV, doc, pm, an, cdv, ct, osl, rfl, lk, hcd, hd, _⟩ := F.ex
  rcases hd with ⟨_, e⟩ | ⟨e, _⟩
  · subst e
    exact ⟨fun s us ws X l1 l2 => .of_eq (h kV doc pm an cdv ct us ws l1 l2), fun r1 r2 => hrel r1 r2⟩
  · exact absurd rfl e
end
/-- a def by its name, keywords alone; a method, the same; a static method -/
structure CaK (P : Program) (w : World) (K : PySem.W.Frag) (mg : Str → Option Value) (base : Heap) (k : Nat) (x : Str) (sp : Sp) (ks : List Str) (gV : List V → List V → List V) : Prop where
  ex : ∃ (f : Addr) (fd : FuncData) (ps : List Str) (g : List Value → List Value → List Value), FnOk P w K mg base CX0 k f fd ps sp ∧ mg x = some (.ref f) ∧ PySem.W.keepIn K (.ref f) = true ∧ KBn K fd ps 0 ks g gV
structure MeK (P : Program) (w : World) (K : PySem.W.Frag) (mg : Str → Option Value) (base : Heap) (k : Nat) (C : Addr) (m : Str) (sp : Sp) (ks : List Str) (gV : List V → List V → List V) : Prop where
  ex : ∃ (f : Addr) (fd : FuncData) (ps : List Str) (g : List Value → List Value → List Value), Cls K C ∧ Meth K C m f ∧ FnOk P w K mg base CX0 k f fd ps sp ∧ KBn K fd ps 1 ks g gV
/-- C.m of the class at C is the static def at f -/
structure SMet (K : PySem.W.Frag) (C : Addr) (m : Str) (f : Addr) : Prop where
  ga : PySem.W.specialIn K (.ref C) "__getattribute__" = some (some (.builtin "type.__getattribute__"))
  at_ : ∃ (mc : Value) (p : Addr) (rest : List Value), PySem.W.readsIn K C mc = true ∧ PySem.W.findCls K (.ref C) mc m = some (.get (.builtin "staticmethod.__get__") (.ref p) .none (.ref C)) ∧ PySem.W.recIn K p "staticmethod" = some (.ref f :: rest)
  hv : PySem.W.handedIn (.ref f) = true
  kp : PySem.W.keepIn K (.ref f) = true
structure Sm (P : Program) (w : World) (K : PySem.W.Frag) (mg : Str → Option Value) (base : Heap) (k : Nat) (C : Addr) (m : Str) (sp : Sp) : Prop where
  ex : ∃ (f : Addr) (fd : FuncData) (ps : List Str), SMet K C m f ∧ FnOk P w K mg base CX0 k f fd ps sp ∧ Binds K fd ps []
structure SmK (P : Program) (w : World) (K : PySem.W.Frag) (mg : Str → Option Value) (base : Heap) (k : Nat) (C : Addr) (m : Str) (sp : Sp) (ks : List Str) (gV : List V → List V → List V) : Prop where
  ex : ∃ (f : Addr) (fd : FuncData) (ps : List Str) (g : List Value → List Value → List Value), SMet K C m f ∧ FnOk P w K mg base CX0 k f fd ps sp ∧ KBn K fd ps 0 ks g gV
def tCallKn (n m : Nat) (sp : Sp) (gV : List V → List V → List V) (pre : List V) (tk : TA) : TE := fun σ H Q => tk σ H fun zs H2 => zs.length = m ∧ sp (gV pre zs) H2 Q E0
def tMethKn (C : Addr) (m : Str) (n : Nat) (sp : Sp) (gV : List V → List V → List V) (ta : TE) (tk : TA) : TE := fun σ H Q => ta σ H fun x H1 => ∃ a dx fs, x = .ref a ∧ H1 a = some (.ins C dx fs) ∧ fs.lookup m = none ∧
  tk σ H1 fun zs H2 => zs.length = n ∧ sp (gV [x] zs) H2 Q E0
section
variable {X : Cx} {k j n : Nat} {C f : Addr} {fd : FuncData} {ps : List Str} {x m : Str} {sp : Sp} {dvs : List V} {p pos apos : Pos} {e o : Expr} {es : List Expr} {ta : TE} {t tk : TA} {ks : List Str} {g : List Value → List Value → List Value} {gV : List V → List V → List V} {kws : List Keyword}
theorem run_kn {pins : List (Addr × Obj)} {σ : L2.St} {H : Hp} {s : Shared} {Q : VK} {us ws : List Value} {vs zs : List V} (F : FnOk X.prog X.w X.K X.mg X.base CX0 k f fd ps sp) (hr : Room k X.A) (hb : KBn X.K fd ps n ks g gV)
    (I : Inv X pins σ H s) (r : Vals vs us) (rz : Vals zs ws) (l1 : vs.length = n) (l2 : zs.length = ks.length) (h : sp (gV vs zs) H Q E0) : wpAny (model X.prog X.w) X.A (call (.ref f) us (ks.zip ws)) (EP X pins σ Q) X.xe s := by
  refine wpAny_call (codeAny_mono (F.run X.A X.stack s H ⟨us, ks.zip ws⟩ (g us ws) (gV vs zs) Q E0 hr I.env0 (hb.to s us ws I.kIn (r.length.symm.trans l1) (rz.length.symm.trans l2)) (hb.rel r rz) h) fun r s' hq => ?_)
  cases r with
  | error e => exact False.elim hq
  | ok fl =>
    cases fl with
    | ret u => exact I.after hq
    | next => exact False.elim hq
    | brk => exact False.elim hq
    | cont => exact False.elim hq
theorem pe_cak (c : CaK X.prog X.w X.K X.mg X.base k x sp ks gV) (hr : Room j X.A) (hk : k ≤ j) (hg : Gl X x) (hkw : PK X kws tk)
    (hall : (backToKw pos (keywordEach kws X.env)).all (·.1.isSome) = true := by rfl) (hks : (backToKw pos (keywordEach kws X.env)).filterMap (·.1) = ks := by rfl)
    (hdb : (x == ("__debug__" : Str)) = false := by decide) (hpl : ((backTo pos (starEach [] X.env)).any (·.1) || (backToKw pos (keywordEach kws X.env)).any (·.1.isNone)) = false := by rfl) :
    PE X (.Call (.Name x p) [] kws pos) (tCallKn 0 ks.length sp gV [] tk) := by
  obtain ⟨f, fd, ps, g, F, hm, kp, b⟩ := c.ex
  refine ⟨fun pins s σ H Q I h => ?_⟩
  refine wpAny_Call_Name_kw (ld_glob I hg hm ?_ hdb)
  refine PySem.W.callWith_KW0 (h₀ := X.base) I.ok.mod.kin kp hall ?_ hpl
  refine thn (hkw.run pos pins s σ H _ I h) fun ws s2 ⟨zs, H2, I2, rz, l2, q2⟩ => ⟨I2.kIn, ?_⟩
  rw [hks]
  exact run_kn (us := []) (vs := []) F (hr.mono hk) b I2 .nil rz rfl l2 q2
theorem pe_mek {pl : Sem Bool} (c : MeK X.prog X.w X.K X.mg X.base k C m sp ks gV) (hr : Room j X.A) (hk : k ≤ j) (he : PE X o ta) (hkw : PK X kws tk)
    (hall : (backToKw pos (keywordEach kws X.env)).all (·.1.isSome) = true := by rfl) (hks : (backToKw pos (keywordEach kws X.env)).filterMap (·.1) = ks := by rfl)
    (hpl : ((backTo pos (starEach [] X.env)).any (·.1) || (backToKw pos (keywordEach kws X.env)).any (·.1.isNone)) = false := by rfl)
    (ht : eval (.Call (.Attribute o m apos) [] kws pos) X.env = (do
      let ov ← eval o X.env
      standAt apos.atName
      let (f, first) ← holding [ov] (getMethod ov m pl)
      callWith pos f first (backTo pos (starEach [] X.env)) (backToKw pos (keywordEach kws X.env))) := by rfl) :
    PE X (.Call (.Attribute o m apos) [] kws pos) (tMethKn C m ks.length sp gV ta tk) := by
  obtain ⟨f, fd, ps, g, hc, hm, F, b⟩ := c.ex
  refine ⟨fun pins s σ H Q I h => ?_⟩
  refine PySem.W.methodCall_KW (pl := pl) (thn (he.run pins s σ H _ I h) fun u s1 ⟨x, H1, I1, rx, a, dx, fs, ex, ea, l, q⟩ => ?_) ht
  subst ex
  obtain rfl : u = Value.ref a := rx
  refine getmeth_ok I1 ea hc hm l ?_
  refine PySem.W.callWith_KW0 (first := [.ref a]) (h₀ := X.base) I.ok.mod.kin hm.kp hall ?_ hpl
  refine thn (hkw.run pos pins s1 σ H1 _ I1 q) fun ws s2 ⟨zs, H2, I2, rz, l2, q2⟩ => ⟨I2.kIn, ?_⟩
  rw [hks]
  exact run_kn (us := [.ref a]) (vs := [.ref a]) F (hr.mono hk) b I2 (.cons rfl .nil) rz rfl l2 q2
theorem getsm_ok {pins : List (Addr × Obj)} {σ : L2.St} {H : Hp} {s : Shared} {pl : Sem Bool} {Q : Value × List Value → Shared → Prop} {A : Around} {E : Value → Shared → Prop} (I : Inv X pins σ H s) (c : SMet X.K C m f) (h : ∀ s', Inv X pins σ H s' → Q (.ref f, []) s') :
    wpAny (model X.prog X.w) A (getMethod (.ref C) m pl) Q E s := by
  obtain ⟨mc, pp, rest, rd, at_, rc⟩ := c.at_
  refine PySem.W.method_cls I.kIn c.ga (PySem.W.cls_bind I.kIn rd at_ ?_)
  exact wpAny_call (PySem.W.sm_get (s := { s with toks := s.toks + 1 }) I.kIn rc (PySem.W.handed_on c.hv (h _ (I.tok _))))
/-- C.m(e, ..), m static, C told by an expression -/
def tSm (C : Addr) (sp : Sp) (to : TE) (t : TA) : TE := fun σ H Q => to σ H fun x H1 => x = .ref C ∧ t σ H1 fun vs H2 => sp vs H2 Q E0
def tSmK (C : Addr) (n : Nat) (sp : Sp) (gV : List V → List V → List V) (to : TE) (tk : TA) : TE := fun σ H Q => to σ H fun x H1 => x = .ref C ∧ tk σ H1 fun zs H2 => zs.length = n ∧ sp (gV [] zs) H2 Q E0
theorem pe_sm {pl : Sem Bool} (c : Sm X.prog X.w X.K X.mg X.base k C m sp) (hr : Room j X.A) (hk : k ≤ j) (he : PE X o ta) (ha : PA X (e :: es) t)
    (hst : starEach (e :: es) X.env = (false, eval e X.env) :: starEach es X.env := by rfl) (hpl : (backTo pos (starEach es X.env)).any (·.1) = false := by rfl)
    (ht : eval (.Call (.Attribute o m apos) (e :: es) [] pos) X.env = (do
      let ov ← eval o X.env
      standAt apos.atName
      let (f, first) ← holding [ov] (getMethod ov m pl)
      callWith pos f first (backTo pos (starEach (e :: es) X.env)) (backToKw pos (keywordEach [] X.env))) := by rfl) :
    PE X (.Call (.Attribute o m apos) (e :: es) [] pos) (tSm C sp ta t) := by
  obtain ⟨f, fd, ps, sm, F, b⟩ := c.ex
  refine ⟨fun pins s σ H Q I h => ?_⟩
  refine PySem.W.methodCall_KW (pl := pl) (thn (he.run pins s σ H _ I h) fun u s1 ⟨x, H1, I1, rx, ex, q⟩ => ?_) ht
  subst ex
  obtain rfl : u = Value.ref C := rx
  refine getsm_ok I1 sm fun s1' I1' => ?_
  refine PySem.W.callWith_K (h₀ := X.base) I.ok.mod.kin sm.kp (thn (ha.run pos pins s1' σ H1 _ I1' q) fun us s2 ⟨vs, H2, I2, r, q2⟩ => ⟨I2.kIn, ?_⟩) hst hpl
  exact run_fn (dvs := []) F (hr.mono hk) b .nil pass0 I2 r (by rw [List.append_nil]; exact q2)
theorem pe_smk {pl : Sem Bool} (c : SmK X.prog X.w X.K X.mg X.base k C m sp ks gV) (hr : Room j X.A) (hk : k ≤ j) (he : PE X o ta) (hkw : PK X kws tk)
    (hall : (backToKw pos (keywordEach kws X.env)).all (·.1.isSome) = true := by rfl) (hks : (backToKw pos (keywordEach kws X.env)).filterMap (·.1) = ks := by rfl)
    (hpl : ((backTo pos (starEach [] X.env)).any (·.1) || (backToKw pos (keywordEach kws X.env)).any (·.1.isNone)) = false := by rfl)
    (ht : eval (.Call (.Attribute o m apos) [] kws pos) X.env = (do
      let ov ← eval o X.env
      standAt apos.atName
      let (f, first) ← holding [ov] (getMethod ov m pl)
      callWith pos f first (backTo pos (starEach [] X.env)) (backToKw pos (keywordEach kws X.env))) := by rfl) :
    PE X (.Call (.Attribute o m apos) [] kws pos) (tSmK C ks.length sp gV ta tk) := by
  obtain ⟨f, fd, ps, g, sm, F, b⟩ := c.ex
  refine ⟨fun pins s σ H Q I h => ?_⟩
  refine PySem.W.methodCall_KW (pl := pl) (thn (he.run pins s σ H _ I h) fun u s1 ⟨x, H1, I1, rx, ex, q⟩ => ?_) ht
  subst ex
  obtain rfl : u = Value.ref C := rx
  refine getsm_ok I1 sm fun s1' I1' => ?_
  refine PySem.W.callWith_KW0 (h₀ := X.base) I.ok.mod.kin sm.kp hall ?_ hpl
  refine thn (hkw.run pos pins s1' σ H1 _ I1' q) fun ws s2 ⟨zs, H2, I2, rz, l2, q2⟩ => ⟨I2.kIn, ?_⟩
  rw [hks]
  exact run_kn (us := []) (vs := []) F (hr.mono hk) b I2 .nil rz rfl l2 q2
end
/-- the context stands over this text -/
structure Over (X : Cx) (P : Program) (w : World) (K : PySem.W.Frag) (mg : Str → Option Value) (base : Heap) : Prop where
  p : X.prog = P
  w : X.w = w
  k : X.K = K
  m : X.mg = mg
  b : X.base = base
section
variable {X : Cx} {P : Program} {w : World} {K : PySem.W.Frag} {mg : Str → Option Value} {base : Heap} {k j : Nat} {C : Addr} {sp : Sp}
theorem op_eqO' (c : Op2 P w K mg base k C "__eq__" sp) (hr : Room j X.A) (hk : k ≤ j) (e : Over X P w K mg base := by exact ⟨rfl, rfl, rfl, rfl, rfl⟩) : OpR X (compareOp .Eq) (rEqO K C sp) := by
  obtain ⟨rfl, rfl, rfl, rfl, rfl⟩ := e
  exact op_eqO c (hr.mono hk)
theorem op_neO' (c : Op2 P w K mg base k C "__eq__" sp) (hr : Room j X.A) (hk : k + 1 ≤ j) (hne : PySem.W.findIn K (.ref C) "__ne__" = some (some (.builtin "object.__ne__"))) (hm : PySem.W.mroIn K C (.type "object") = some true) (e : Over X P w K mg base := by exact ⟨rfl, rfl, rfl, rfl, rfl⟩) : OpR X (compareOp .NotEq) (rNeO K C sp) := by
  obtain ⟨rfl, rfl, rfl, rfl, rfl⟩ := e
  exact op_neO c (hr.mono hk) hne hm
theorem call_strO' (c : Op2 P w K mg base k C "__str__" sp) (hr : Room j X.A) (hk : k + 2 ≤ j) (e : Over X P w K mg base := by exact ⟨rfl, rfl, rfl, rfl, rfl⟩) : CallR X (.type "str") (rReprO C sp) := by
  obtain ⟨rfl, rfl, rfl, rfl, rfl⟩ := e
  exact call_strO c (hr.mono hk)
theorem call_reprO' (c : Op2 P w K mg base k C "__repr__" sp) (hr : Room j X.A) (hk : k + 1 ≤ j) (e : Over X P w K mg base := by exact ⟨rfl, rfl, rfl, rfl, rfl⟩) : CallR X (.builtin "repr") (rReprO C sp) := by
  obtain ⟨rfl, rfl, rfl, rfl, rfl⟩ := e
  exact call_reprO c (hr.mono hk)
theorem call_isi' (e : X.K = K := by rfl) : CallR X (.builtin "isinstance") (rIsi K) := by
  subst e
  exact call_isi
end
/-! the built-ins by their names -/
theorem bt_len : bootBuiltins "len" = some (.builtin "len") := by decide +kernel
theorem bt_abs : bootBuiltins "abs" = some (.builtin "abs") := by decide +kernel
theorem bt_max : bootBuiltins "max" = some (.builtin "max") := by decide +kernel
theorem bt_min : bootBuiltins "min" = some (.builtin "min") := by decide +kernel
theorem bt_divmod : bootBuiltins "divmod" = some (.builtin "divmod") := by decide +kernel
theorem bt_isinstance : bootBuiltins "isinstance" = some (.builtin "isinstance") := by decide +kernel
theorem bt_all : bootBuiltins "all" = some (.builtin "all") := by decide +kernel
theorem bt_any : bootBuiltins "any" = some (.builtin "any") := by decide +kernel
theorem bt_repr : bootBuiltins "repr" = some (.builtin "repr") := by decide +kernel
theorem bt_sorted : bootBuiltins "sorted" = some (.builtin "sorted") := by decide +kernel
theorem bt_enumerate : bootBuiltins "enumerate" = some (.type "enumerate") := by decide +kernel
theorem bt_zip : bootBuiltins "zip" = some (.type "zip") := by decide +kernel
theorem bt_range : bootBuiltins "range" = some (.type "range") := by decide +kernel
theorem bt_sum : bootBuiltins "sum" = some (.builtin "sum") := by decide +kernel
theorem bt_int : bootBuiltins "int" = some (.type "int") := by decide +kernel
theorem bt_str : bootBuiltins "str" = some (.type "str") := by decide +kernel
theorem bt_list : bootBuiltins "list" = some (.type "list") := by decide +kernel
theorem bt_tuple : bootBuiltins "tuple" = some (.type "tuple") := by decide +kernel
theorem bt_bool : bootBuiltins "bool" = some (.type "bool") := by decide +kernel
theorem bt_dict : bootBuiltins "dict" = some (.type "dict") := by decide +kernel
theorem bt_set : bootBuiltins "set" = some (.type "set") := by decide +kernel
theorem bt_type : bootBuiltins "type" = some (.type "type") := by decide +kernel
end Mv
/-! plain mathematics of fractions in lowest terms -/
namespace Rm
/-- the part by which both are divided, with the sign of the bottom -/
def part (t b : Int) : Int := if b < 0 then -(Int.gcd t b : Int) else (Int.gcd t b : Int)
def rt (t b : Int) : Int := t.fdiv (part t b)
def rb (t b : Int) : Int := b.fdiv (part t b)
theorem gcd_pos {t b : Int} (h : b ≠ 0) : 0 < (Int.gcd t b : Int) := by
  have : 0 < Int.gcd t b := Int.gcd_pos_of_ne_zero_right t h
  omega
theorem part_ne {t b : Int} (h : b ≠ 0) : part t b ≠ 0 := by
  have := gcd_pos (t := t) h
  unfold part; split <;> omega
theorem part_dvd_t (t b : Int) : part t b ∣ t := by
  unfold part
  split
  · exact (Int.neg_dvd).mpr (Int.gcd_dvd_left t b)
  · exact Int.gcd_dvd_left t b
theorem part_dvd_b (t b : Int) : part t b ∣ b := by
  unfold part
  split
  · exact (Int.neg_dvd).mpr (Int.gcd_dvd_right t b)
  · exact Int.gcd_dvd_right t b
theorem fdiv_mul {a p : Int} (h : p ∣ a) : a.fdiv p * p = a := Int.fdiv_mul_cancel h
theorem rt_mul (t b : Int) : rt t b * part t b = t := fdiv_mul (part_dvd_t t b)
theorem rb_mul (t b : Int) : rb t b * part t b = b := fdiv_mul (part_dvd_b t b)
theorem rb_pos {t b : Int} (h : b ≠ 0) : 0 < rb t b := by
  have e := rb_mul t b
  have g := gcd_pos (t := t) h
  by_cases hb : b < 0
  · have hp : part t b < 0 := by unfold part; rw [if_pos hb]; omega
    by_cases hz : 0 < rb t b
    · exact hz
    · exfalso
      have h1 : rb t b ≤ 0 := by omega
      have := Int.mul_nonneg_of_nonpos_of_nonpos h1 (Int.le_of_lt hp)
      omega
  · have hp : 0 < part t b := by unfold part; rw [if_neg hb]; omega
    by_cases hz : 0 < rb t b
    · exact hz
    · exfalso
      have h1 : rb t b ≤ 0 := by omega
      have := Int.mul_nonpos_of_nonpos_of_nonneg h1 (Int.le_of_lt hp)
      omega
/-- the same value -/
theorem same (t b : Int) : rt t b * b = t * rb t b := by
  have h1 := rt_mul t b
  have h2 := rb_mul t b
  calc rt t b * b = rt t b * (rb t b * part t b) := by rw [h2]
    _ = (rt t b * part t b) * rb t b := by rw [Int.mul_comm (rb t b), ← Int.mul_assoc]
    _ = t * rb t b := by rw [h1]
theorem coprime {t b : Int} (h : b ≠ 0) : Int.gcd (rt t b) (rb t b) = 1 := by
  have h1 := rt_mul t b
  have h2 := rb_mul t b
  have e : Int.gcd (rt t b * part t b) (rb t b * part t b) = Int.gcd (rt t b) (rb t b) * (part t b).natAbs := Int.gcd_mul_right _ _ _
  rw [h1, h2] at e
  have hp : (part t b).natAbs = Int.gcd t b := by
    unfold part; split <;> omega
  rw [hp] at e
  have g := gcd_pos (t := t) h
  have g' : 0 < Int.gcd t b := by omega
  have : 1 * Int.gcd t b = Int.gcd (rt t b) (rb t b) * Int.gcd t b := by omega
  exact (Nat.eq_of_mul_eq_mul_right g' this).symm
theorem dvd_of {b t c : Int} (h : b ∣ t * c) (g : Int.gcd b t = 1) : b ∣ c := by
  rw [← Int.natAbs_dvd_natAbs] at h ⊢
  rw [Int.natAbs_mul] at h
  have g' : Nat.Coprime b.natAbs t.natAbs := by rw [Int.gcd_eq_natAbs_gcd_natAbs] at g; exact g
  exact g'.dvd_of_dvd_mul_left h
/-- in lowest terms, bottom at least 1: told by its value -/
theorem unique {t b u c : Int} (hb : 0 < b) (hc : 0 < c) (gb : Int.gcd t b = 1) (gc : Int.gcd u c = 1) (e : t * c = u * b) : t = u ∧ b = c := by
  have d1 : b ∣ c := by
    have : b ∣ t * c := ⟨u, by rw [e, Int.mul_comm]⟩
    exact dvd_of this (by rw [Int.gcd_comm]; exact gb)
  have d2 : c ∣ b := by
    have : c ∣ u * b := ⟨t, by rw [← e, Int.mul_comm]⟩
    exact dvd_of this (by rw [Int.gcd_comm]; exact gc)
  have hbc : b = c := Int.dvd_antisymm (Int.le_of_lt hb) (Int.le_of_lt hc) d1 d2
  refine ⟨?_, hbc⟩
  subst hbc
  exact Int.eq_of_mul_eq_mul_right (by omega) e
theorem rb_le {t b : Int} (h : b ≠ 0) : (rb t b).natAbs ≤ b.natAbs := by
  have e := rb_mul t b
  have hp := part_ne (t := t) h
  have : (rb t b).natAbs * (part t b).natAbs = b.natAbs := by rw [← Int.natAbs_mul, e]
  have h1 : 1 ≤ (part t b).natAbs := by omega
  calc (rb t b).natAbs = (rb t b).natAbs * 1 := by omega
    _ ≤ (rb t b).natAbs * (part t b).natAbs := Nat.mul_le_mul_left _ h1
    _ = b.natAbs := this
theorem rt_le {t b : Int} (h : b ≠ 0) : (rt t b).natAbs ≤ t.natAbs := by
  have e := rt_mul t b
  have hp := part_ne (t := t) h
  have : (rt t b).natAbs * (part t b).natAbs = t.natAbs := by rw [← Int.natAbs_mul, e]
  have h1 : 1 ≤ (part t b).natAbs := by omega
  calc (rt t b).natAbs = (rt t b).natAbs * 1 := by omega
    _ ≤ (rt t b).natAbs * (part t b).natAbs := Nat.mul_le_mul_left _ h1
    _ = t.natAbs := this
theorem gcd_step {m n : Int} (hm : 0 ≤ m) (hn : 0 < n) : Int.gcd n (m % n) = Int.gcd m n := by
  obtain ⟨a, rfl⟩ := Int.eq_ofNat_of_zero_le hm
  obtain ⟨b, rfl⟩ := Int.eq_ofNat_of_zero_le (Int.le_of_lt hn)
  have e : ((a : Int) % (b : Int)) = ((a % b : Nat) : Int) := by omega
  rw [e]
  show Nat.gcd b (a % b) = Nat.gcd a b
  rw [Nat.gcd_comm a b, Nat.gcd_comm b (a % b)]
  exact (Nat.gcd_rec b a).symm
def ab (i : Int) : Int := if i < 0 then -i else i
theorem ab_nn (i : Int) : 0 ≤ ab i := by unfold ab; split <;> omega
theorem ab_nat (i : Int) : (ab i).natAbs = i.natAbs := by unfold ab; split <;> omega
theorem gcd_ab (t b : Int) : Int.gcd (ab t) (ab b) = Int.gcd t b := by
  rw [Int.gcd_eq_natAbs_gcd_natAbs, ab_nat, ab_nat, ← Int.gcd_eq_natAbs_gcd_natAbs]
theorem part_nat {t b : Int} (h : b ≠ 0) : (part t b).natAbs ≤ b.natAbs := by
  have e : (part t b).natAbs = Int.gcd t b := by unfold part; split <;> omega
  rw [e]
  exact Nat.le_of_dvd (by omega) (by
    have := Int.gcd_dvd_right t b
    rw [← Int.natAbs_dvd_natAbs] at this
    simpa using this)
theorem log_lt {n k : Nat} (h : n < 2 ^ k) (h0 : 0 < k) : n.log2 < k := by
  by_cases hn : n = 0
  · subst hn; simpa using h0
  · exact (Nat.log2_lt hn).mpr h
/-- a whole number -/
theorem part_one (n : Int) : part n 1 = 1 := by unfold part; simp
theorem rt_one (n : Int) : rt n 1 = n := by unfold rt; rw [part_one]; simp
theorem rb_one (n : Int) : rb n 1 = 1 := by unfold rb; rw [part_one]; rfl
/-- already in lowest terms -/
theorem rt_self {t b : Int} (hb : 0 < b) (g : Int.gcd t b = 1) : rt t b = t := by
  unfold rt part; rw [if_neg (by omega), g]; simp
theorem rb_self {t b : Int} (hb : 0 < b) (g : Int.gcd t b = 1) : rb t b = b := by
  unfold rb part; rw [if_neg (by omega), g]; simp
end Rm
set_option Elab.async false
set_option maxRecDepth 100000
set_option maxHeartbeats 4000000
local macro_rules | `(tactic| walk_at "rd") => `(tactic| repeat (first
  | refine ⟨_, rfl, ?_⟩
  | refine ⟨_, _, rfl, rfl, ?_⟩
  | refine ⟨_, _, rfl, ?_⟩
  | refine Or.inl ⟨_, rfl, ?_⟩
  | refine ⟨.inl ⟨by decide, by decide⟩, ?_⟩
  | refine ⟨.inr ⟨by decide, by decide⟩, ?_⟩
  | refine ⟨(by decide : (0 : Int) < _), ?_⟩
  | refine ⟨⟨by decide, by decide, by decide⟩, ?_⟩))
namespace T
open PySem L2 Mv
def top (i : Nat) : Stmt := PySem.Challenge.pw_movecells_k12_ratios_compared_and_read.main.body.getD i (.Pass ⟨0, 0, 0, 0⟩)
abbrev s_isint : Stmt := top 7
abbrev s_isnum : Stmt := top 8
abbrev s_wantnum : Stmt := top 9
abbrev s_asratio : Stmt := top 10
abbrev s_common : Stmt := top 13
abbrev s_init : Stmt := inClass (top 14) 0
abbrev s_top : Stmt := inClass (top 14) 2
abbrev s_bottom : Stmt := inClass (top 14) 3
abbrev s_below : Stmt := inClass (top 14) 6
abbrev s_floor : Stmt := inClass (top 14) 7
abbrev s_eq : Stmt := inClass (top 14) 15
abbrev s_str : Stmt := inClass (top 14) 16
abbrev s_repr : Stmt := inClass (top 14) 17
theorem sc_top : FnScope ["self"] ["self"] (defScope s_top) := ⟨rfl, rfl, rfl, by decide +kernel, rfl, by decide +kernel, by decide +kernel⟩
theorem sc_bottom : FnScope ["self"] ["self"] (defScope s_bottom) := ⟨rfl, rfl, rfl, by decide +kernel, rfl, by decide +kernel, by decide +kernel⟩
theorem sc_below : FnScope ["self", "other", "mate"] ["self", "other"] (defScope s_below) := ⟨rfl, rfl, rfl, by decide +kernel, rfl, by decide +kernel, by decide +kernel⟩
theorem sc_floor : FnScope ["self"] ["self"] (defScope s_floor) := ⟨rfl, rfl, rfl, by decide +kernel, rfl, by decide +kernel, by decide +kernel⟩
theorem sc_eq : FnScope ["self", "other"] ["self", "other"] (defScope s_eq) := ⟨rfl, rfl, rfl, by decide +kernel, rfl, by decide +kernel, by decide +kernel⟩
theorem sc_str : FnScope ["self"] ["self"] (defScope s_str) := ⟨rfl, rfl, rfl, by decide +kernel, rfl, by decide +kernel, by decide +kernel⟩
theorem sc_repr : FnScope ["self"] ["self"] (defScope s_repr) := ⟨rfl, rfl, rfl, by decide +kernel, rfl, by decide +kernel, by decide +kernel⟩
theorem sc_isint : FnScope ["value"] ["value"] (defScope s_isint) := ⟨rfl, rfl, rfl, by decide +kernel, rfl, by decide +kernel, by decide +kernel⟩
theorem sc_isnum : FnScope ["value"] ["value"] (defScope s_isnum) := ⟨rfl, rfl, rfl, by decide +kernel, rfl, by decide +kernel, by decide +kernel⟩
theorem sc_wantnum : FnScope ["value"] ["value"] (defScope s_wantnum) := ⟨rfl, rfl, rfl, by decide +kernel, rfl, by decide +kernel, by decide +kernel⟩
theorem sc_asratio : FnScope ["number"] ["number"] (defScope s_asratio) := ⟨rfl, rfl, rfl, by decide +kernel, rfl, by decide +kernel, by decide +kernel⟩
theorem sc_common : FnScope ["one", "other"] ["one", "other"] (defScope s_common) := ⟨rfl, rfl, rfl, by decide +kernel, rfl, by decide +kernel, by decide +kernel⟩
theorem sc_init : FnScope ["self", "top", "bottom", "part"] ["self", "top", "bottom"] (defScope s_init) := ⟨rfl, rfl, rfl, by decide +kernel, rfl, by decide +kernel, by decide +kernel⟩
/-- the built-ins are still their own -/
structure Blt (mg : Str → Option Value) : Prop where
  len : mg "len" = none
  abs : mg "abs" = none
  max : mg "max" = none
  min : mg "min" = none
  int : mg "int" = none
  bool : mg "bool" = none
  str : mg "str" = none
  repr : mg "repr" = none
  all : mg "all" = none
  any : mg "any" = none
  range : mg "range" = none
  divmod : mg "divmod" = none
  isinstance : mg "isinstance" = none
/-- the class Ratio at C -/
structure Rat (K : PySem.W.Frag) (mg : Str → Option Value) (C : Addr) : Prop where
  cl : Cls K C
  nT : NoAttr K C "own_top"
  nB : NoAttr K C "own_bottom"
  mgC : mg "Ratio" = some (.ref C)
  ha : PySem.W.findIn K (.ref C) "__class__" = some (some (.builtin "object.__class__"))
  hn : PySem.W.specialIn K (.builtin "object.__class__") "__get__" = some (some (.builtin "getset_descriptor.__get__"))
  htk : PySem.W.takesIn K (.builtin "object.__class__") = some true
  hm : PySem.W.mroIn K C (.type "object") = some true
  me : PySem.W.kitOne K (.ref C) (.ref C) = some true
  ki : PySem.W.kitOne K (.ref C) (.type "int") = some false
  kb : PySem.W.kitOne K (.ref C) (.type "bool") = some false
  ks : PySem.W.kitOne K (.ref C) (.type "str") = some false
  ne : PySem.W.findIn K (.ref C) "__ne__" = some (some (.builtin "object.__ne__"))
  oth : ∀ t ∈ ["NoneType", "bool", "int", "str", "list", "tuple", "dict"], PySem.W.kitOne K (.type t) (.ref C) = some false ∧ PySem.W.notFirst K C (.type t) = true
def flds (t b : Int) : List (Str × V) := [("own_top", .int t), ("own_bottom", .int b)]
/-- a Ratio t/b stands at a, in lowest terms -/
structure RAt (C : Addr) (H : Hp) (a : Addr) (t b : Int) : Prop where
  ob : ∃ dx, H a = some (.ins C dx (flds t b))
  pos : 0 < b
  low : Int.gcd t b = 1
section
variable {P : Program} {w : World} {K : PySem.W.Frag} {mg : Str → Option Value} {base : Heap} {C : Addr}
theorem Rat.ty (R : Rat K mg C) {H : Hp} {a dx : Addr} {fs : List (Str × V)} (e : H a = some (.ins C dx fs)) : TyX K H (.ref a) (.ref C) := .base (.ins e R.cl R.ha R.hn R.htk R.hm)
theorem Rat.nf (R : Rat K mg C) : PySem.W.notFirst K C (.ref C) = true := by unfold PySem.W.notFirst; simp
/-! is_integer -/
def sp_isint (K : PySem.W.Frag) : Sp := fun vs H Q _ => ∃ (v : V) (t : Value) (b c : Bool), vs = [v] ∧ TyX K H v t ∧ PySem.W.kitOne K t (.type "int") = some b ∧ PySem.W.kitOne K t (.type "bool") = some c ∧ Q (.bl (b && !c)) H
theorem ok_isint {f : Addr} {fd : FuncData} (F : Df K "is_integer" "is_integer" s_isint [] f fd) (B : Blt mg) : FnOk P w K mg base CX0 1 f fd ["value"] (sp_isint K) := by
  refine dfOk F sc_isint (fun vs H Q E h => ?_) (fun cdv A outer s H vs Q E hr h => ?_)
  · obtain ⟨v, t, b, c, rfl, _⟩ := h
    rfl
  · obtain ⟨v, t, b, c, rfl, ty, h1, h2, q⟩ := h
    refine ⟨_, pss_one (ps_ret (pe_and (pe_callB call_isi (by rfl) B.isinstance (by decide +kernel) (pa_cons (pv 0) (pa_cons (pe_bltn (v := .ty "int") (by rfl) B.int (by decide +kernel) rfl) pa_nil)))
      (pe_one (pe_not (pe_callB call_isi (by rfl) B.isinstance (by decide +kernel) (pa_cons (pv 0) (pa_cons (pe_bltn (v := .ty "bool") (by rfl) B.bool (by decide +kernel) rfl) pa_nil))))))), ?_⟩
    refine ⟨_, rfl, _, _, t, _, b, rfl, .ty _, ty, h1, b, rfl, ?_⟩
    cases b with
    | false => exact iteF q
    | true =>
      refine iteT ?_
      refine ⟨_, rfl, _, _, t, _, c, rfl, .ty _, ty, h2, c, rfl, ?_⟩
      exact q
/-! is_number -/
def sp_isnum (K : PySem.W.Frag) (C : Addr) : Sp := fun vs H Q _ => ∃ (v : V), vs = [v] ∧ ((∃ i, v = .int i) ∨ (∃ a dx fs, v = .ref a ∧ H a = some (.ins C dx fs))) ∧ Q (.bl true) H
theorem ok_isnum {f : Addr} {fd : FuncData} (F : Df K "is_number" "is_number" s_isnum [] f fd) (B : Blt mg) (R : Rat K mg C) (c1 : Ca P w K mg base 1 "is_integer" (sp_isint K) []) : FnOk P w K mg base CX0 2 f fd ["value"] (sp_isnum K C) := by
  refine dfOk F sc_isnum (fun vs H Q E h => ?_) (fun cdv A outer s H vs Q E hr h => ?_)
  · obtain ⟨v, rfl, _⟩ := h
    rfl
  · obtain ⟨v, rfl, hv, q⟩ := h
    refine ⟨_, pss_one (ps_ret (pe_or (pe_ca c1 hr (by decide) (by rfl) (pa_cons (pv 0) pa_nil))
      (pe_one (pe_callB call_isi (by rfl) B.isinstance (by decide +kernel) (pa_cons (pv 0) (pa_cons (pe_glob (by rfl) R.mgC (v := .ref C) rfl) pa_nil)))))), ?_⟩
    rcases hv with ⟨i, rfl⟩ | ⟨a, dx, fs, rfl, ea⟩
    · refine ⟨_, rfl, _, .type "int", true, false, rfl, .base (.int i), kit_ty (by decide +kernel), kit_ty (by decide +kernel), _, rfl, ?_⟩
      exact iteT q
    · refine ⟨_, rfl, _, .ref C, false, false, rfl, R.ty ea, R.ki, R.kb, _, rfl, ?_⟩
      refine iteF ?_
      exact ⟨_, rfl, _, _, .ref C, .ref C, true, rfl, .own C, R.ty ea, R.me, q⟩
/-! want_number -/
def sp_wantnum (C : Addr) : Sp := fun vs H Q _ => ∃ (v : V), vs = [v] ∧ ((∃ i, v = .int i) ∨ (∃ a dx fs, v = .ref a ∧ H a = some (.ins C dx fs))) ∧ Q .non H
theorem ok_wantnum {f : Addr} {fd : FuncData} (F : Df K "want_number" "want_number" s_wantnum [] f fd) (c1 : Ca P w K mg base 2 "is_number" (sp_isnum K C) []) : FnOk P w K mg base CX0 3 f fd ["value"] (sp_wantnum C) := by
  refine dfOk F sc_wantnum (fun vs H Q E h => ?_) (fun cdv A outer s H vs Q E hr h => ?_)
  · obtain ⟨v, rfl, _⟩ := h
    rfl
  · obtain ⟨v, rfl, hv, q⟩ := h
    refine ⟨_, pss_one (ps_if (pt_not (pt_val (pe_ca c1 hr (by decide) (by rfl) (pa_cons (pv 0) pa_nil)))) pss_never pss_nil), ?_⟩
    refine ⟨_, rfl, _, rfl, hv, _, rfl, ?_⟩
    exact iteF q
/-! common_part -/
def sp_common : Sp := fun vs H Q _ => ∃ (m n : Int), vs = [.int m, .int n] ∧ 0 ≤ m ∧ 0 ≤ n ∧ Q (.int (Int.gcd m n)) H
theorem ok_common {f : Addr} {fd : FuncData} (F : Df K "common_part" "common_part" s_common [] f fd) : FnOk P w K mg base CX0 1 f fd ["one", "other"] sp_common := by
  refine dfOk F sc_common (fun vs H Q E h => ?_) (fun cdv A outer s H vs Q E hr h => ?_)
  · obtain ⟨m, n, rfl, _⟩ := h
    rfl
  · obtain ⟨m, n, rfl, hm, hn, q⟩ := h
    refine ⟨_, pss_cons (ps_while PassesOwn.never (pt_cmpR op_gt (pv 1) pe_int (nomark _)) (pss_one (ps_par (i := 0) (j := 1) (by rfl) sc_common.nd rfl rfl (by decide) rfl rfl (pa_cons (pv 1) (pa_cons (pe_op op_mod (pv 0) (pv 1)) pa_nil)) (by rfl))))
      (pss_one (ps_ret (pv 0))), ?_⟩
    refine while_by (fun σ H' => ∃ a b : Int, σ = [some (.int a), some (.int b)] ∧ H' = H ∧ 0 ≤ a ∧ 0 ≤ b ∧ Int.gcd a b = Int.gcd m n)
      (fun σ _ => match σ with | [_, some (.int b)] => b.toNat | _ => 0) ⟨m, n, rfl, rfl, hm, hn, rfl⟩ ?_ ?_
    · rintro σ H' ⟨a, b, rfl, rfl, ha, hb, e⟩
      walk_at "rd"
      refine ite2 (fun h => ?_) (fun h => ?_)
      · have hb0 : 0 < b := of_decide_eq_true h
        walk_at "rd"
        refine ⟨hb0, _, _, rfl, ⟨b, a % b, rfl, rfl, hb, Int.emod_nonneg _ (by omega), by rw [Rm.gcd_step ha hb0]; exact e⟩, ?_⟩
        show (a % b).toNat < b.toNat
        have := Int.emod_lt_of_pos a hb0
        have := Int.emod_nonneg a (b := b) (by omega)
        omega
      · have hb0 : b = 0 := by
          have : ¬ (0 < b) := fun z => h (decide_eq_true z)
          omega
        subst hb0
        refine ⟨_, rfl, ?_⟩
        have e2 : (Int.gcd m n : Int) = a := by
          rw [← e]; simp; omega
        rw [e2] at q
        exact q
    · intro σ H' Q Q' hQ h
      obtain ⟨v, h1, h2⟩ := h
      refine ⟨v, h1, ?_⟩
      obtain ⟨i, j, e1, e2, k, e3, h3⟩ := h2
      exact ⟨i, j, e1, e2, k, e3, hQ _ _ h3⟩
/-! Ratio.__init__ -/
def sp_init (C : Addr) : Sp := fun vs H Q _ => ∃ (x dx : Addr) (t b : Int), vs = [.ref x, .int t, .int b] ∧ H x = some (.ins C dx []) ∧ b ≠ 0 ∧ b.natAbs < 2 ^ 8000 ∧ Q .non (upd H x (.ins C dx (flds (Rm.rt t b) (Rm.rb t b))))
theorem ok_init {f : Addr} {fd : FuncData} {dvs : List V} (F : Df K "__init__" "Ratio.__init__" s_init dvs f fd) (B : Blt mg) (R : Rat K mg C) (c1 : Ca P w K mg base 1 "is_integer" (sp_isint K) []) (c2 : Ca P w K mg base 1 "common_part" sp_common []) :
    FnOk P w K mg base CX0 2 f fd ["self", "top", "bottom"] (sp_init C) := by
  refine dfOk F sc_init (fun vs H Q E h => ?_) (fun cdv A outer s H vs Q E hr h => ?_)
  · obtain ⟨x, dx, t, b, rfl, _⟩ := h
    rfl
  · obtain ⟨x, dx, t, b, rfl, hx, hb, hz, q⟩ := h
    refine ⟨_, pss_cons (ps_if (pt_not (pt_val (pe_ca c1 hr (by decide) (by rfl) (pa_cons (pv 1) pa_nil)))) pss_never pss_nil)
      (pss_cons (ps_if (PW.pt (pw_or (pt_not (pt_val (pe_ca c1 hr (by decide) (by rfl) (pa_cons (pv 2) pa_nil)))) (pw_or1 (pt_cmpR op_eq (pv 2) pe_int (nomark _))))) pss_never pss_nil)
      (pss_cons (ps_set (i := 3) sc_init.nd rfl (Or.inl rfl) (pe_ca c2 hr (by decide) (by rfl) (pa_cons (pe_callB call_abs (by rfl) B.abs (by decide +kernel) (pa_cons (pv 1) pa_nil)) (pa_cons (pe_callB call_abs (by rfl) B.abs (by decide +kernel) (pa_cons (pv 2) pa_nil)) pa_nil))))
      (pss_cons (ps_if (pt_cmpR op_lt (pv 2) pe_int (nomark _)) (pss_one (ps_set (i := 3) sc_init.nd rfl (Or.inl rfl) (pe_un un_neg (pv 3)))) pss_nil)
      (pss_cons (ps_fld (pv 0) (pe_op op_fdivX (pv 1) (pv 3)) rfl)
      (pss_one (ps_fld (pv 0) (pe_op op_fdivX (pv 2) (pv 3)) rfl)))))), ?_⟩
    have isi : ∀ i : Int, TyX K H (.int i) (.type "int") := fun i => .base (.int i)
    refine ⟨_, rfl, _, .type "int", true, false, rfl, isi _, kit_ty (by decide +kernel), kit_ty (by decide +kernel), _, rfl, iteF ?_⟩
    refine ⟨_, rfl, _, .type "int", true, false, rfl, isi _, kit_ty (by decide +kernel), kit_ty (by decide +kernel), _, rfl, iteF ?_⟩
    refine ⟨_, rfl, rfl, _, rfl, ?_⟩
    have e0 : decide (V.int b = V.int 0) = false := decide_eq_false (fun z => hb (V.int.inj z))
    rw [e0]
    refine iteF ?_
    refine ⟨_, rfl, _, rfl, _, rfl, _, rfl, Rm.ab t, Rm.ab b, rfl, Rm.ab_nn t, Rm.ab_nn b, ?_⟩
    rw [Rm.gcd_ab]
    walk_at "rd"
    have hdiv : CDivX t (Rm.part t b) := ⟨Rm.part_ne hb, Nat.lt_trans (Rm.log_lt (Nat.lt_of_le_of_lt (Rm.part_nat hb) hz) (by decide)) (by decide)⟩
    have hdiv2 : CDivX b (Rm.part t b) := hdiv
    refine ite2 (fun h => ?_) (fun h => ?_)
    · have hb0 : b < 0 := of_decide_eq_true h
      have ep : -(Int.gcd t b : Int) = Rm.part t b := by unfold Rm.part; rw [if_pos hb0]
      walk_at "rd"
      rw [ep]
      refine ⟨hdiv, _, rfl, x, C, dx, _, rfl, hx, R.cl, R.nT, (by show 0 < 1000; decide), ?_⟩
      walk_at "rd"
      (try rw [ep])
      refine ⟨hdiv2, _, rfl, x, C, dx, _, rfl, upd_same, R.cl, R.nB, (by show 1 < 1000; decide), ?_⟩
      rw [upd_upd]
      exact q
    · have hb0 : ¬ b < 0 := fun z => h (decide_eq_true z)
      have ep : (Int.gcd t b : Int) = Rm.part t b := by unfold Rm.part; rw [if_neg hb0]
      walk_at "rd"
      rw [ep]
      refine ⟨hdiv, _, rfl, x, C, dx, _, rfl, hx, R.cl, R.nT, (by show 0 < 1000; decide), ?_⟩
      walk_at "rd"
      (try rw [ep])
      refine ⟨hdiv2, _, rfl, x, C, dx, _, rfl, upd_same, R.cl, R.nB, (by show 1 < 1000; decide), ?_⟩
      rw [upd_upd]
      exact q
/-! as_ratio: the number itself, or a new Ratio of it -/
def sp_asratio (C : Addr) : Sp := fun vs H Q _ => ∃ (v : V), vs = [v] ∧
  ((∃ i, v = .int i ∧ ∀ x dx, H x = none → H dx = none → dx ≠ x → Q (.ref x) (upd (upd H dx (.own x)) x (.ins C dx (flds i 1)))) ∨ (∃ a dx fs, v = .ref a ∧ H a = some (.ins C dx fs) ∧ Q v H))
theorem ok_asratio {f : Addr} {fd : FuncData} (F : Df K "as_ratio" "as_ratio" s_asratio [] f fd) (B : Blt mg) (R : Rat K mg C) (c1 : Ma P w K mg base 2 "Ratio" C (sp_init C) [.int 1]) : FnOk P w K mg base CX0 4 f fd ["number"] (sp_asratio C) := by
  refine dfOk F sc_asratio (fun vs H Q E h => ?_) (fun cdv A outer s H vs Q E hr h => ?_)
  · obtain ⟨v, rfl, _⟩ := h
    rfl
  · obtain ⟨v, rfl, hv⟩ := h
    refine ⟨_, pss_one (ps_ret (pe_ifExp (pt_val (pe_callB call_isi (by rfl) B.isinstance (by decide +kernel) (pa_cons (pv 0) (pa_cons (pe_glob (by rfl) R.mgC (v := .ref C) rfl) pa_nil)))) (pv 0)
      (pe_ma c1 hr (by decide) (by rfl) (pa_cons (pv 0) pa_nil)))), ?_⟩
    rcases hv with ⟨i, rfl, q⟩ | ⟨a, dx, fs, rfl, ea, q⟩
    · refine ⟨_, rfl, _, _, .type "int", .ref C, false, rfl, .own C, .base (.int i), (R.oth "int" (by simp)).1, _, rfl, iteF ?_⟩
      refine ⟨_, rfl, fun x dx hx hdx hne => ?_⟩
      refine ⟨x, dx, i, 1, rfl, upd_same, by decide, Nat.one_lt_two_pow (by decide), rfl, ?_⟩
      rw [upd_upd, Rm.rt_one, Rm.rb_one]
      exact q x dx hx hdx hne
    · refine ⟨_, rfl, _, _, .ref C, .ref C, true, rfl, .own C, R.ty ea, R.me, _, rfl, iteT ?_⟩
      exact ⟨_, rfl, q⟩
theorem lk_t (t b : Int) : (flds t b).lookup ("own_top" : Str) = some (.int t) := by rfl
theorem lk_b (t b : Int) : (flds t b).lookup ("own_bottom" : Str) = some (.int b) := by rfl
/-! properties -/
def sp_get (C : Addr) (v : Int → Int → Int) : Sp := fun vs H Q _ => ∃ (a dx : Addr) (t b : Int), vs = [.ref a] ∧ H a = some (.ins C dx (flds t b)) ∧ Q (.int (v t b)) H
theorem ok_top {f : Addr} {fd : FuncData} (F : Df K "top" "Ratio.top" s_top [] f fd) (R : Rat K mg C) : FnOk P w K mg base CX0 1 f fd ["self"] (sp_get C fun t _ => t) := by
  refine dfOk F sc_top (fun vs H Q E h => ?_) (fun cdv A outer s H vs Q E hr h => ?_)
  · obtain ⟨a, dx, t, b, rfl, _⟩ := h
    rfl
  · obtain ⟨a, dx, t, b, rfl, ea, q⟩ := h
    refine ⟨_, pss_one (ps_ret (pe_fld (pv 0) rfl)), ?_⟩
    exact ⟨_, rfl, a, C, dx, _, _, rfl, ea, R.cl, R.nT, lk_t t b, q⟩
theorem ok_bottom {f : Addr} {fd : FuncData} (F : Df K "bottom" "Ratio.bottom" s_bottom [] f fd) (R : Rat K mg C) : FnOk P w K mg base CX0 1 f fd ["self"] (sp_get C fun _ b => b) := by
  refine dfOk F sc_bottom (fun vs H Q E h => ?_) (fun cdv A outer s H vs Q E hr h => ?_)
  · obtain ⟨a, dx, t, b, rfl, _⟩ := h
    rfl
  · obtain ⟨a, dx, t, b, rfl, ea, q⟩ := h
    refine ⟨_, pss_one (ps_ret (pe_fld (pv 0) rfl)), ?_⟩
    exact ⟨_, rfl, a, C, dx, _, _, rfl, ea, R.cl, R.nB, lk_b t b, q⟩
/-! floor -/
def sp_floor (C : Addr) : Sp := fun vs H Q _ => ∃ (a dx : Addr) (t b : Int), vs = [.ref a] ∧ H a = some (.ins C dx (flds t b)) ∧ 0 < b ∧ b.natAbs < 2 ^ 8000 ∧ Q (.int (t / b)) H
theorem ok_floor {f : Addr} {fd : FuncData} (F : Df K "floor" "Ratio.floor" s_floor [] f fd) (R : Rat K mg C) : FnOk P w K mg base CX0 1 f fd ["self"] (sp_floor C) := by
  refine dfOk F sc_floor (fun vs H Q E h => ?_) (fun cdv A outer s H vs Q E hr h => ?_)
  · obtain ⟨a, dx, t, b, rfl, _⟩ := h
    rfl
  · obtain ⟨a, dx, t, b, rfl, ea, hb, hz, q⟩ := h
    refine ⟨_, pss_one (ps_ret (pe_op op_fdivW (pe_fld (pv 0) rfl) (pe_fld (pv 0) rfl))), ?_⟩
    exact ⟨_, rfl, a, C, dx, _, _, rfl, ea, R.cl, R.nT, lk_t t b, _, rfl, a, C, dx, _, _, rfl, ea, R.cl, R.nB, lk_b t b, _, _, rfl, rfl, wide_div hb hz (by decide) (by decide), q⟩
/-! __eq__ -/
def sp_eq (K : PySem.W.Frag) (C : Addr) : Sp := fun vs H Q _ => ∃ (a dx : Addr) (t b : Int) (v : V), vs = [.ref a, v] ∧ H a = some (.ins C dx (flds t b)) ∧
  ((∃ (c dy : Addr) (u d : Int), v = .ref c ∧ H c = some (.ins C dy (flds u d)) ∧ Q (.bl (decide (t = u ∧ b = d))) H) ∨ (∃ ty : Value, TyX K H v ty ∧ PySem.W.kitOne K ty (.ref C) = some false ∧ Q (.bl false) H))
theorem ok_eq {f : Addr} {fd : FuncData} (F : Df K "__eq__" "Ratio.__eq__" s_eq [] f fd) (B : Blt mg) (R : Rat K mg C) : FnOk P w K mg base CX0 1 f fd ["self", "other"] (sp_eq K C) := by
  refine dfOk F sc_eq (fun vs H Q E h => ?_) (fun cdv A outer s H vs Q E hr h => ?_)
  · obtain ⟨a, dx, t, b, v, rfl, _⟩ := h
    rfl
  · obtain ⟨a, dx, t, b, v, rfl, ea, hv⟩ := h
    refine ⟨_, pss_one (ps_ret (pe_and (pe_callB call_isi (by rfl) B.isinstance (by decide +kernel) (pa_cons (pv 1) (pa_cons (pe_glob (by rfl) R.mgC (v := .ref C) rfl) pa_nil)))
      (pe_and (pe_cmpR op_eq (pe_fld (pv 0) rfl) (pe_fld (pv 1) rfl) (nomark _)) (pe_one (pe_cmpR op_eq (pe_fld (pv 0) rfl) (pe_fld (pv 1) rfl) (nomark _)))))), ?_⟩
    rcases hv with ⟨c, dy, u, d, rfl, ec, q⟩ | ⟨ty, hty, hk, q⟩
    · refine ⟨_, rfl, _, _, .ref C, .ref C, true, rfl, .own C, R.ty ec, R.me, _, rfl, iteT ?_⟩
      refine ⟨_, rfl, a, C, dx, _, _, rfl, ea, R.cl, R.nT, lk_t t b, _, rfl, c, C, dy, _, _, rfl, ec, R.cl, R.nT, lk_t u d, rfl, _, rfl, ?_⟩
      by_cases e1 : t = u
      · subst e1
        rw [decide_eq_true rfl]
        refine iteT ?_
        refine ⟨_, rfl, a, C, dx, _, _, rfl, ea, R.cl, R.nB, lk_b t b, _, rfl, c, C, dy, _, _, rfl, ec, R.cl, R.nB, lk_b t d, rfl, ?_⟩
        have e2 : decide (V.int b = V.int d) = decide (t = t ∧ b = d) := by
          by_cases e : b = d
          · subst e; simp
          · rw [decide_eq_false (fun z => e (V.int.inj z)), decide_eq_false (fun z => e z.2)]
        show Q (.bl (decide (V.int b = V.int d))) H
        rw [e2]
        exact q
      · rw [decide_eq_false (fun z => e1 (V.int.inj z))]
        refine iteF ?_
        rw [decide_eq_false (fun z => e1 z.1)] at q
        exact q
    · refine ⟨_, rfl, _, _, ty, .ref C, false, rfl, .own C, hty, hk, _, rfl, iteF q⟩
/-! sizes -/
abbrev Sz (i : Int) : Prop := i.natAbs < 2 ^ 1000
theorem Sz.log {i : Int} (h : Sz i) : i.natAbs.log2 < 1920 := Nat.lt_trans (Rm.log_lt h (by decide)) (by decide)
theorem Sz.mul {i j : Int} (h : Sz i) (g : Sz j) : CMulW i j := wide_mul h g (by decide) (by decide) (by decide)
theorem Sz.wide {i : Int} (h : Sz i) : i.natAbs < 2 ^ 8000 := Nat.lt_of_lt_of_le h (Nat.pow_le_pow_right (by decide) (by decide))
theorem Sz.one : Sz 1 := by show (1 : Nat) < 2 ^ 1000; exact Nat.one_lt_two_pow (by decide)
/-! is_below -/
/-- the value of a number: a Ratio u/d, or an integer -/
inductive Num (C : Addr) (H : Hp) : V → Int → Int → Prop
  | int (i : Int) : Num C H (.int i) i 1
  | rat {c dy : Addr} {u d : Int} (e : H c = some (.ins C dy (flds u d))) : Num C H (.ref c) u d
def sp_below (C : Addr) : Sp := fun vs H Q _ => ∃ (a dx : Addr) (t b u d : Int) (v : V), vs = [.ref a, v] ∧ H a = some (.ins C dx (flds t b)) ∧ Num C H v u d ∧ Sz t ∧ Sz b ∧ Sz u ∧ Sz d ∧ ∀ H', Same H H' → Q (.bl (decide (t * d < u * b))) H'
theorem ok_below {f : Addr} {fd : FuncData} (F : Df K "is_below" "Ratio.is_below" s_below [] f fd) (R : Rat K mg C) (c1 : Ca P w K mg base 3 "want_number" (sp_wantnum C) []) (c2 : Ca P w K mg base 4 "as_ratio" (sp_asratio C) []) :
    FnOk P w K mg base CX0 5 f fd ["self", "other"] (sp_below C) := by
  refine dfOk F sc_below (fun vs H Q E h => ?_) (fun cdv A outer s H vs Q E hr h => ?_)
  · obtain ⟨a, dx, t, b, u, d, v, rfl, _⟩ := h
    rfl
  · obtain ⟨a, dx, t, b, u, d, v, rfl, ea, hv, st, sb, su, sd, q⟩ := h
    refine ⟨_, pss_cons (ps_expr (pe_ca c1 hr (by decide) (by rfl) (pa_cons (pv 1) pa_nil)))
      (pss_cons (ps_set (i := 2) sc_below.nd rfl (Or.inl rfl) (pe_ca c2 hr (by decide) (by rfl) (pa_cons (pv 1) pa_nil)))
      (pss_one (ps_ret (pe_cmpR op_lt (pe_op op_mulW (pe_fld (pv 0) rfl) (pe_fld (pv 2) rfl)) (pe_op op_mulW (pe_fld (pv 2) rfl) (pe_fld (pv 0) rfl)) (nomark _))))), ?_⟩
    cases hv with
    | int i =>
      refine ⟨_, rfl, _, rfl, .inl ⟨_, rfl⟩, _, rfl, _, rfl, .inl ⟨_, rfl, fun x dx' hx hdx hne => ?_⟩⟩
      have sm : Same H (upd (upd H dx' (.own x)) x (.ins C dx' (flds u 1))) := fun z o e => by
        rw [upd_ne (ne_of_none e hx), upd_ne (ne_of_none e hdx)]; exact e
      refine ⟨_, rfl, a, C, dx, _, _, rfl, sm _ _ ea, R.cl, R.nT, lk_t t b, _, rfl, x, C, dx', _, _, rfl, upd_same, R.cl, R.nB, lk_b u 1, _, _, rfl, rfl, st.mul sd,
        _, rfl, x, C, dx', _, _, rfl, upd_same, R.cl, R.nT, lk_t u 1, _, rfl, a, C, dx, _, _, rfl, sm _ _ ea, R.cl, R.nB, lk_b t b, _, _, rfl, rfl, su.mul sb, _, _, rfl, rfl, q _ sm⟩
    | @rat c dy u d ec =>
      refine ⟨_, rfl, _, rfl, .inr ⟨_, _, _, rfl, ec⟩, _, rfl, _, rfl, .inr ⟨_, _, _, rfl, ec, ?_⟩⟩
      refine ⟨_, rfl, a, C, dx, _, _, rfl, ea, R.cl, R.nT, lk_t t b, _, rfl, c, C, dy, _, _, rfl, ec, R.cl, R.nB, lk_b u d, _, _, rfl, rfl, st.mul sd,
        _, rfl, c, C, dy, _, _, rfl, ec, R.cl, R.nT, lk_t u d, _, rfl, a, C, dx, _, _, rfl, ea, R.cl, R.nB, lk_b t b, _, _, rfl, rfl, su.mul sb, _, _, rfl, rfl, q _ (Same.refl H)⟩
/-! __str__, __repr__ -/
def num (i : Int) : Str := Str.ofString (toString i)
theorem num_len {i : Int} (h : Sz i) : (num i).length ≤ 1921 := PyProof.Rows.int_text_len_1921 h.log
def rstr (t b : Int) : Str := if b = 1 then num t else Str.empty ++ num t ++ "/" ++ num b
def rrepr (t b : Int) : Str := Str.empty ++ "Ratio(" ++ num t ++ ", " ++ num b ++ ")"
def sp_txt (C : Addr) (z : Int → Int → Str) : Sp := fun vs H Q _ => ∃ (a dx : Addr) (t b : Int), vs = [.ref a] ∧ H a = some (.ins C dx (flds t b)) ∧ Sz t ∧ Sz b ∧ Q (.str (z t b)) H
theorem app_len (x y : Str) : (x ++ y).length = x.length + y.length := strLen_append x y
theorem ok_str {f : Addr} {fd : FuncData} (F : Df K "__str__" "Ratio.__str__" s_str [] f fd) (B : Blt mg) (R : Rat K mg C) : FnOk P w K mg base CX0 1 f fd ["self"] (sp_txt C rstr) := by
  refine dfOk F sc_str (fun vs H Q E h => ?_) (fun cdv A outer s H vs Q E hr h => ?_)
  · obtain ⟨a, dx, t, b, rfl, _⟩ := h
    rfl
  · obtain ⟨a, dx, t, b, rfl, ea, st, sb, q⟩ := h
    refine ⟨_, pss_cons (ps_if (pt_cmpR op_eq (pe_fld (pv 0) rfl) pe_int (nomark _)) (pss_one (ps_ret (pe_callTy call_str_int (by rfl) B.str (by decide +kernel) (pa_cons (pe_fld (pv 0) rfl) pa_nil)))) pss_nil)
      (pss_one (ps_ret (pe_joined (.cons (pe_fmt (pe_fld (pv 0) rfl)) (.cons pe_str (.cons (pe_fmt (pe_fld (pv 0) rfl)) .nil)))))), ?_⟩
    refine ⟨_, rfl, a, C, dx, _, _, rfl, ea, R.cl, R.nB, lk_b t b, rfl, _, rfl, ?_⟩
    have l1 := num_len st
    have l2 := num_len sb
    by_cases e : b = 1
    · subst e
      rw [decide_eq_true rfl]
      refine iteT ?_
      exact ⟨_, rfl, a, C, dx, _, _, rfl, ea, R.cl, R.nT, lk_t t 1, _, rfl, st.log, q⟩
    · rw [decide_eq_false (fun z => e (V.int.inj z))]
      refine iteF ?_
      have er : rstr t b = Str.empty ++ num t ++ "/" ++ num b := by unfold rstr; rw [if_neg e]
      rw [er] at q
      have z1 : (Str.empty : Str).length = 0 := rfl
      have z2 : ("/" : Str).length = 1 := rfl
      refine ⟨_, rfl, a, C, dx, _, _, rfl, ea, R.cl, R.nT, lk_t t b, .inr ⟨_, rfl, st.log, _, rfl, ?_, _, rfl, ?_, _, rfl, a, C, dx, _, _, rfl, ea, R.cl, R.nB, lk_b t b, .inr ⟨_, rfl, sb.log, _, rfl, ?_, q⟩⟩⟩
      · show (Str.empty ++ num t).length ≤ sizeLine
        rw [app_len]; unfold sizeLine; omega
      · show (Str.empty ++ num t ++ "/").length ≤ sizeLine
        rw [app_len, app_len]; unfold sizeLine; omega
      · show (Str.empty ++ num t ++ "/" ++ num b).length ≤ sizeLine
        rw [app_len, app_len, app_len]; unfold sizeLine; omega
theorem ok_repr {f : Addr} {fd : FuncData} (F : Df K "__repr__" "Ratio.__repr__" s_repr [] f fd) (R : Rat K mg C) : FnOk P w K mg base CX0 1 f fd ["self"] (sp_txt C rrepr) := by
  refine dfOk F sc_repr (fun vs H Q E h => ?_) (fun cdv A outer s H vs Q E hr h => ?_)
  · obtain ⟨a, dx, t, b, rfl, _⟩ := h
    rfl
  · obtain ⟨a, dx, t, b, rfl, ea, st, sb, q⟩ := h
    refine ⟨_, pss_one (ps_ret (pe_joined (.cons pe_str (.cons (pe_fmt (pe_fld (pv 0) rfl)) (.cons pe_str (.cons (pe_fmt (pe_fld (pv 0) rfl)) (.cons pe_str .nil))))))), ?_⟩
    have l1 := num_len st
    have l2 := num_len sb
    have z1 : (Str.empty : Str).length = 0 := rfl
    have z2 : ("Ratio(" : Str).length = 6 := rfl
    have z3 : (", " : Str).length = 2 := rfl
    have z4 : (")" : Str).length = 1 := rfl
    refine ⟨_, rfl, ?_, _, rfl, a, C, dx, _, _, rfl, ea, R.cl, R.nT, lk_t t b, .inr ⟨_, rfl, st.log, _, rfl, ?_, _, rfl, ?_, _, rfl, a, C, dx, _, _, rfl, ea, R.cl, R.nB, lk_b t b, .inr ⟨_, rfl, sb.log, _, rfl, ?_, _, rfl, ?_, q⟩⟩⟩
    · show (Str.empty ++ "Ratio(").length ≤ sizeLine
      rw [app_len]; unfold sizeLine; omega
    · show (Str.empty ++ "Ratio(" ++ num t).length ≤ sizeLine
      rw [app_len, app_len]; unfold sizeLine; omega
    · show (Str.empty ++ "Ratio(" ++ num t ++ ", ").length ≤ sizeLine
      rw [app_len, app_len, app_len]; unfold sizeLine; omega
    · show (Str.empty ++ "Ratio(" ++ num t ++ ", " ++ num b).length ≤ sizeLine
      rw [app_len, app_len, app_len, app_len]; unfold sizeLine; omega
    · show (Str.empty ++ "Ratio(" ++ num t ++ ", " ++ num b ++ ")").length ≤ sizeLine
      rw [app_len, app_len, app_len, app_len, app_len]; unfold sizeLine; omega
end
end T
namespace Rm
/-- the sign of t/b - u/d for bottoms of any sign -/
def ord (a b c d : Int) : Int := if (decide (b < 0) != decide (d < 0)) = true then (if a * d < c * b then 1 else 0) - (if c * b < a * d then 1 else 0) else (if c * b < a * d then 1 else 0) - (if a * d < c * b then 1 else 0)
theorem part_neg {t b : Int} (h : b < 0) : part t b < 0 := by
  have := gcd_pos (t := t) (b := b) (by omega)
  unfold part; rw [if_pos h]; omega
theorem part_pos {t b : Int} (h : 0 < b) : 0 < part t b := by
  have := gcd_pos (t := t) (b := b) (by omega)
  unfold part; rw [if_neg (by omega)]; exact this
theorem cross (a b c d : Int) : a * d = (rt a b * rb c d) * (part a b * part c d) ∧ c * b = (rt c d * rb a b) * (part a b * part c d) := by
  constructor
  · calc a * d = (rt a b * part a b) * (rb c d * part c d) := by rw [rt_mul, rb_mul]
      _ = _ := by simp only [Int.mul_assoc, Int.mul_left_comm]
  · calc c * b = (rt c d * part c d) * (rb a b * part a b) := by rw [rt_mul, rb_mul]
      _ = _ := by simp only [Int.mul_assoc, Int.mul_left_comm, Int.mul_comm (part c d)]
theorem ord_cases {a b c d : Int} (hb : b ≠ 0) (hd : d ≠ 0) :
    (rt a b * rb c d < rt c d * rb a b ∧ ord a b c d = -1) ∨ (rt a b * rb c d = rt c d * rb a b ∧ ord a b c d = 0) ∨ (rt c d * rb a b < rt a b * rb c d ∧ ord a b c d = 1) := by
  obtain ⟨e1, e2⟩ := cross a b c d
  generalize hx : rt a b * rb c d = x at *
  generalize hy : rt c d * rb a b = y at *
  by_cases h : (decide (b < 0) != decide (d < 0)) = true
  · have hpq : part a b * part c d < 0 := by
      rcases Int.lt_or_gt_of_ne hb with h1 | h1
      · have h2 : ¬ d < 0 := by
          intro z; rw [decide_eq_true h1, decide_eq_true z] at h; simp at h
        exact Int.mul_neg_of_neg_of_pos (part_neg h1) (part_pos (by omega))
      · have h2 : d < 0 := by
          by_cases z : d < 0
          · exact z
          · rw [decide_eq_false (by omega : ¬ b < 0), decide_eq_false z] at h; simp at h
        exact Int.mul_neg_of_pos_of_neg (part_pos h1) (part_neg h2)
    unfold ord
    rw [if_pos h, e1, e2]
    generalize part a b * part c d = m at *
    rcases Int.lt_trichotomy x y with g | g | g
    · left
      have := Int.mul_lt_mul_of_neg_right g hpq
      refine ⟨g, ?_⟩
      rw [if_neg (by omega), if_pos this]; rfl
    · right; left
      subst g
      refine ⟨rfl, ?_⟩
      rw [if_neg (by omega)]; rfl
    · right; right
      have := Int.mul_lt_mul_of_neg_right g hpq
      refine ⟨g, ?_⟩
      rw [if_pos this, if_neg (by omega)]; rfl
  · have hpq : 0 < part a b * part c d := by
      rcases Int.lt_or_gt_of_ne hb with h1 | h1
      · have h2 : d < 0 := by
          by_cases z : d < 0
          · exact z
          · exfalso; rw [decide_eq_true h1, decide_eq_false z] at h; simp at h
        exact Int.mul_pos_of_neg_of_neg (part_neg h1) (part_neg h2)
      · have h2 : 0 < d := by
          by_cases z : d < 0
          · exfalso; rw [decide_eq_false (by omega : ¬ b < 0), decide_eq_true z] at h; simp at h
          · omega
        exact Int.mul_pos (part_pos h1) (part_pos h2)
    unfold ord
    rw [if_neg h, e1, e2]
    generalize part a b * part c d = m at *
    rcases Int.lt_trichotomy x y with g | g | g
    · left
      have := Int.mul_lt_mul_of_pos_right g hpq
      refine ⟨g, ?_⟩
      rw [if_neg (by omega), if_pos this]; rfl
    · right; left
      subst g
      refine ⟨rfl, ?_⟩
      rw [if_neg (by omega)]; rfl
    · right; right
      have := Int.mul_lt_mul_of_pos_right g hpq
      refine ⟨g, ?_⟩
      rw [if_pos this, if_neg (by omega)]; rfl
theorem ord_lt {a b c d : Int} (hb : b ≠ 0) (hd : d ≠ 0) : (ord a b c d < 0) ↔ (rt a b * rb c d < rt c d * rb a b) := by
  rcases ord_cases (a := a) (c := c) hb hd with ⟨h, e⟩ | ⟨h, e⟩ | ⟨h, e⟩ <;> rw [e] <;> constructor <;> intro <;> omega
theorem ord_gt {a b c d : Int} (hb : b ≠ 0) (hd : d ≠ 0) : (0 < ord a b c d) ↔ (rt c d * rb a b < rt a b * rb c d) := by
  rcases ord_cases (a := a) (c := c) hb hd with ⟨h, e⟩ | ⟨h, e⟩ | ⟨h, e⟩ <;> rw [e] <;> constructor <;> intro <;> omega
theorem ord_eq {a b c d : Int} (hb : b ≠ 0) (hd : d ≠ 0) : (ord a b c d = 0) ↔ (rt a b = rt c d ∧ rb a b = rb c d) := by
  constructor
  · intro h
    rcases ord_cases (a := a) (c := c) hb hd with ⟨_, e⟩ | ⟨g, _⟩ | ⟨_, e⟩
    · omega
    · exact unique (rb_pos hb) (rb_pos hd) (coprime hb) (coprime hd) g
    · omega
  · rintro ⟨h1, h2⟩
    rcases ord_cases (a := a) (c := c) hb hd with ⟨g, _⟩ | ⟨_, e⟩ | ⟨g, _⟩
    · rw [h1, h2] at g; omega
    · exact e
    · rw [h1, h2] at g; omega
theorem fdiv_scale {t s p : Int} (hs : 0 < s) (hp : p ≠ 0) : (t * p).fdiv (s * p) = t / s := by
  rcases Int.lt_or_gt_of_ne hp with h | h
  · have e : (t * p).fdiv (s * p) = (t * -p).fdiv (s * -p) := by
      rw [Int.mul_neg, Int.mul_neg, Int.neg_fdiv_neg]
    rw [e, Int.fdiv_eq_ediv_of_nonneg _ (Int.le_of_lt (Int.mul_pos hs (by omega)))]
    exact Int.mul_ediv_mul_of_pos_left _ _ (by omega)
  · rw [Int.fdiv_eq_ediv_of_nonneg _ (Int.le_of_lt (Int.mul_pos hs h))]
    exact Int.mul_ediv_mul_of_pos_left _ _ h
/-- the floor -/
theorem floor_eq {a b : Int} (h : b ≠ 0) : rt a b / rb a b = a.fdiv b := by
  have e := fdiv_scale (t := rt a b) (rb_pos (t := a) h) (part_ne (t := a) h)
  rw [rt_mul, rb_mul] at e
  exact e.symm
end Rm
set_option Elab.async false
set_option maxRecDepth 100000
set_option maxHeartbeats 4000000
local macro_rules | `(tactic| walk_at "rd") => `(tactic| repeat (first
  | refine ⟨_, rfl, ?_⟩
  | refine ⟨_, _, rfl, rfl, ?_⟩
  | refine ⟨_, _, rfl, ?_⟩
  | refine Or.inl ⟨_, rfl, ?_⟩
  | refine ⟨.inl ⟨by decide, by decide⟩, ?_⟩
  | refine ⟨.inr ⟨by decide, by decide⟩, ?_⟩
  | refine ⟨(by decide : (0 : Int) < _), ?_⟩
  | refine ⟨⟨by decide, by decide, by decide⟩, ?_⟩))
namespace T
open PySem L2 Mv
abbrev s_pot : Stmt := top 16
abbrev s_draw : Stmt := top 17
abbrev s_pick : Stmt := top 18
abbrev s_integer : Stmt := top 19
abbrev s_parts : Stmt := top 20
abbrev s_near : Stmt := top 21
abbrev s_order : Stmt := top 22
theorem sc_pot : FnScope ["_law_script", "_law_k", "_law_figures"] ["_law_script", "_law_k"] (defScope s_pot) := ⟨rfl, rfl, rfl, by decide +kernel, rfl, by decide +kernel, by decide +kernel⟩
theorem sc_draw : FnScope ["_law_pot_here", "_law_size", "_law_digit"] ["_law_pot_here", "_law_size"] (defScope s_draw) := ⟨rfl, rfl, rfl, by decide +kernel, rfl, by decide +kernel, by decide +kernel⟩
theorem sc_pick : FnScope ["_law_pot_here", "_law_some"] ["_law_pot_here", "_law_some"] (defScope s_pick) := ⟨rfl, rfl, rfl, by decide +kernel, rfl, by decide +kernel, by decide +kernel⟩
theorem sc_integer : FnScope ["_law_pot_here", "_law_most", "_law_found"] ["_law_pot_here", "_law_most"] (defScope s_integer) := ⟨rfl, rfl, rfl, by decide +kernel, rfl, by decide +kernel, by decide +kernel⟩
theorem sc_parts : FnScope ["_law_pot_here", "_law_most", "_law_upper", "_law_lower"] ["_law_pot_here", "_law_most"] (defScope s_parts) := ⟨rfl, rfl, rfl, by decide +kernel, rfl, by decide +kernel, by decide +kernel⟩
theorem sc_near : FnScope ["_law_pot_here", "_law_pair", "_law_upper", "_law_lower", "_law_mode", "_law_by"] ["_law_pot_here", "_law_pair"] (defScope s_near) := ⟨rfl, rfl, rfl, by decide +kernel, rfl, by decide +kernel, by decide +kernel⟩
theorem sc_order : FnScope ["_law_one", "_law_fellow", "_law_less", "_law_more"] ["_law_one", "_law_fellow"] (defScope s_order) := ⟨rfl, rfl, rfl, by decide +kernel, rfl, by decide +kernel, by decide +kernel⟩
/-- all but p is kept -/
def But (p : Addr) (H H' : Hp) : Prop := ∀ b o, b ≠ p → H b = some o → H' b = some o
theorem But.refl (p : Addr) (H : Hp) : But p H H := fun _ _ _ e => e
theorem But.trans {p : Addr} {H H1 H2 : Hp} (a : But p H H1) (b : But p H1 H2) : But p H H2 := fun c o n e => b c o n (a c o n e)
theorem But.new {p q : Addr} {H : Hp} {o : HO} (hq : H q = none) : But p H (upd H q o) := fun b u _ e => by rw [upd_ne (ne_of_none e hq)]; exact e
theorem But.set {p : Addr} {H : Hp} {o : HO} : But p H (upd H p o) := fun b u n e => by rw [upd_ne n]; exact e
theorem But.free {p q : Addr} {H H' : Hp} (b : But p H H') (hp : q ≠ p) (h : H' q = none) : H q = none := by
  cases e : H q with
  | none => rfl
  | some o => rw [b q o hp e] at h; cases h
/-- a pot: two counts -/
structure Pot (H : Hp) (p : Addr) : Prop where
  ex : ∃ x y : Int, H p = some (.lst [.int x, .int y]) ∧ 0 ≤ x ∧ 0 ≤ y ∧ y < 2147483648
theorem Pot.new {H : Hp} {p q : Addr} {o : HO} (h : Pot H p) (hq : H q = none) : Pot (upd H q o) p := by
  obtain ⟨x, y, e, r⟩ := h.ex
  exact ⟨x, y, by rw [upd_ne (ne_of_none e hq)]; exact e, r⟩
theorem Pot.ne {H : Hp} {p q : Addr} (h : Pot H p) (hq : H q = none) : q ≠ p := by
  obtain ⟨x, y, e, _⟩ := h.ex
  exact (ne_of_none e hq).symm
section
variable {P : Program} {w : World} {K : PySem.W.Frag} {mg : Str → Option Value} {base : Heap} {C : Addr}
def sp_pot (K : PySem.W.Frag) : Sp := fun vs H Q _ => ∃ (a : Addr) (ns : List Int) (k : Nat), vs = [.ref a, .int k] ∧ SqL K H a (ns.map V.int) ∧ k < 100 ∧
  ∀ p, H p = none → ∀ x y : Int, 0 ≤ x → 0 ≤ y → y < 2147483648 → Q (.ref p) (upd H p (.lst [.int x, .int y]))
theorem ok_pot {f : Addr} {fd : FuncData} (F : Df K "_law_pot" "_law_pot" s_pot [] f fd) (B : Blt mg) : FnOk P w K mg base CX0 1 f fd ["_law_script", "_law_k"] (sp_pot K) := by
  refine dfOk F sc_pot (fun vs H Q E h => ?_) (fun cdv A outer s H vs Q E hr h => ?_)
  · obtain ⟨a, ns, k, rfl, _⟩ := h
    rfl
  · obtain ⟨a, ns, k, rfl, hS, hk, q⟩ := h
    refine ⟨_, pss_cons (ps_set (i := 2) sc_pot.nd rfl (Or.inl rfl) (pe_op op_add (pe_op op_mul pe_int (pv 1)) pe_int))
      (pss_cons (ps_if (pt_cmpR op_lt (pv 1) (pe_callB call_len_seq (by rfl) B.len PySem.boot_len (pa_cons (pv 0) pa_nil)) (nomark _))
          (pss_one (ps_set (i := 2) sc_pot.nd rfl (Or.inl rfl) (pe_callB call_abs (by rfl) B.abs (by decide +kernel) (pa_cons (pe_ix ix_list (pv 0) (pv 1) (fun _ _ => rfl)) pa_nil)))) pss_nil)
      (pss_one (ps_ret (pe_lst (pa_cons (pe_callB (call_max2 rfl) (by rfl) B.max (by decide +kernel) (pa_cons pe_int (pa_cons (pe_op op_sub (pv 2) (pe_op op_pow pe_int pe_int)) pa_nil)))
        (pa_cons (pe_op op_add (pe_op op_mod (pe_op op_mul (pe_callTy call_int1 (by rfl) B.int (by decide +kernel) (pa_cons (pe_op op_add (pe_op op_mod (pe_callTy call_int1 (by rfl) B.int (by decide +kernel) (pa_cons (pv 2) pa_nil)) pe_int) pe_int) pa_nil))
          (pe_op op_pow (pe_op op_add (pe_op op_mul pe_int (pv 1)) pe_int) pe_int)) pe_int) pe_int) pa_nil)))))), ?_⟩
    walk_at "rd"
    refine ⟨a, _, rfl, .inl hS, ?_⟩
    walk_at "rd"
    have fin : ∀ z : Int, 0 ≤ (z % 2147483549 + 13) * (2 * (k : Int) + 3) ^ 3 % 2147483477 + 1 ∧ (z % 2147483549 + 13) * (2 * (k : Int) + 3) ^ 3 % 2147483477 + 1 < 2147483648 := fun z => by
      generalize (z % 2147483549 + 13) * (2 * (k : Int) + 3) ^ 3 = y
      omega
    have fin2 : ∀ z : Int, 0 ≤ (if z > 0 then z else 0) := fun z => by split <;> omega
    refine ite2 (fun hlt => ?_) (fun _ => ?_)
    · have hlt' : k < (ns.map V.int).length := by
        have h0 := of_decide_eq_true hlt
        omega
      have hn : k < ns.length := by simpa using hlt'
      walk_at "rd"
      refine ⟨a, _, _, _, rfl, rfl, hS, atI_nat (by rw [List.getElem?_map, List.getElem?_eq_getElem hn]; rfl), ?_⟩
      walk_at "rd"
      refine ⟨⟨by decide, by decide, by omega⟩, ?_⟩
      walk_at "rd"
      refine ⟨.inl ⟨by omega, by omega⟩, ?_⟩
      walk_at "rd"
      refine ⟨by show 2 ≤ sizeLine; decide, fun p hp => ?_⟩
      exact q p hp _ _ (fin2 _) (fin _).1 (fin _).2
    · walk_at "rd"
      refine ⟨⟨by decide, by decide, by omega⟩, ?_⟩
      walk_at "rd"
      refine ⟨.inl ⟨by omega, by omega⟩, ?_⟩
      walk_at "rd"
      refine ⟨by show 2 ≤ sizeLine; decide, fun p hp => ?_⟩
      exact q p hp _ _ (fin2 _) (fin _).1 (fin _).2
/-! draw -/
def sp_draw : Sp := fun vs H Q _ => ∃ (p : Addr) (n : Int), vs = [.ref p, .int n] ∧ Pot H p ∧ 0 < n ∧ n.natAbs < 2 ^ 8000 ∧ ∀ (d : Int) (H' : Hp), 0 ≤ d → d < n → Pot H' p → But p H H' → Q (.int d) H'
theorem ok_draw {f : Addr} {fd : FuncData} (F : Df K "_law_draw" "_law_draw" s_draw [] f fd) (B : Blt mg) : FnOk P w K mg base CX0 1 f fd ["_law_pot_here", "_law_size"] sp_draw := by
  refine dfOk F sc_draw (fun vs H Q E h => ?_) (fun cdv A outer s H vs Q E hr h => ?_)
  · obtain ⟨p, n, rfl, _⟩ := h
    rfl
  · obtain ⟨p, n, rfl, hp, hn, hz, q⟩ := h
    obtain ⟨x, y, e, hx, hy, hy2⟩ := hp.ex
    refine ⟨_, pss_cons (ps_if (pt_cmpR op_gt (pe_ix ix_list (pv 0) pe_int (fun _ _ => rfl)) pe_int (nomark _))
        (pss_cons (ps_asg (pe_callB call_divmodW (by rfl) B.divmod (by decide +kernel) (pa_cons (pe_ix ix_list (pv 0) pe_int (fun _ _ => rfl)) (pa_cons (pv 1) pa_nil)))
            (pg_tup (by rfl) (pgs_cons (pg_sub (pv 0) pe_int set_list) (pgs_cons (pg_name (i := 2) sc_draw.nd rfl (Or.inl rfl)) pgs_nil))))
          (pss_one (ps_ret (pv 2)))) pss_nil)
      (pss_cons (ps_asg (pe_op op_mod (pe_callTy call_int1 (by rfl) B.int (by decide +kernel) (pa_cons (pe_op op_add (pe_op op_mul (pe_ix ix_list (pv 0) pe_int (fun _ _ => rfl)) pe_int) pe_int) pa_nil)) pe_int) (pg_sub (pv 0) pe_int set_list))
      (pss_one (ps_ret (pe_op op_mod (pe_callTy call_int1 (by rfl) B.int (by decide +kernel) (pa_cons (pe_op op_fdiv (pe_op op_mod (pe_callTy call_int1 (by rfl) B.int (by decide +kernel) (pa_cons (pe_op op_mul (pe_ix ix_list (pv 0) pe_int (fun _ _ => rfl)) (pe_ix ix_list (pv 0) pe_int (fun _ _ => rfl))) pa_nil)) pe_int) pe_int) pa_nil)) (pv 1))))), ?_⟩
    refine ⟨_, rfl, p, _, _, _, rfl, rfl, SqL.of e, rfl, _, _, rfl, rfl, _, rfl, ?_⟩
    refine ite2 (fun h => ?_) (fun h => ?_)
    · refine ⟨_, rfl, p, _, _, _, rfl, rfl, SqL.of e, rfl, _, rfl, _, _, rfl, divp_of hn (Nat.lt_trans (Rm.log_lt hz (by decide)) (by decide)), fun t ht => ?_⟩
      refine ⟨t, _, rfl, SqT.of upd_same, rfl, _, _, rfl, _, rfl, p, _, _, 0, rfl, rfl, by rw [upd_ne (ne_of_none e ht)]; exact e, rfl, _, _, rfl, rfl, _, rfl, ?_⟩
      refine q _ _ (Int.emod_nonneg _ (by omega)) (Int.emod_lt_of_pos _ hn) ⟨_, y, upd_same, Int.ediv_nonneg hx (by omega), hy, hy2⟩ ((But.new ht).trans But.set)
    · refine ⟨_, rfl, p, _, _, _, rfl, rfl, SqL.of e, rfl, _, _, rfl, rfl, .inr ⟨by decide, by decide⟩, ?_⟩
      walk_at "rd"
      refine ⟨p, _, _, 1, rfl, rfl, e, rfl, ?_⟩
      have hb : 0 ≤ (y * 48271 + 12161) % 2147483587 ∧ (y * 48271 + 12161) % 2147483587 < 2147483648 := by omega
      refine ⟨_, rfl, p, _, _, _, rfl, rfl, SqL.of upd_same, rfl, _, rfl, p, _, _, _, rfl, rfl, SqL.of upd_same, rfl, _, _, rfl, rfl, .inl ⟨Int.lt_of_lt_of_le (by decide) hb.1, Int.lt_trans hb.2 (by decide)⟩, ?_⟩
      walk_at "rd"
      refine ⟨⟨by decide, by decide⟩, ?_⟩
      walk_at "rd"
      refine ⟨hn, ?_⟩
      exact q _ _ (Int.emod_nonneg _ (by omega)) (Int.emod_lt_of_pos _ hn) ⟨x, (y * 48271 + 12161) % 2147483587, upd_same, hx, hb.1, hb.2⟩ But.set
/-! pick -/
def sp_pick (K : PySem.W.Frag) : Sp := fun vs H Q _ => ∃ (p l : Addr) (xs : List V), vs = [.ref p, .ref l] ∧ Pot H p ∧ l ≠ p ∧ SqL K H l xs ∧ xs ≠ [] ∧ xs.length ≤ 1000 ∧ ∀ (v : V) (H' : Hp), v ∈ xs → Pot H' p → But p H H' → Q v H'
theorem But.seq {p l : Addr} {H H' : Hp} {xs : List V} (b : But p H H') (hl : l ≠ p) (h : SqL K H l xs) : SqL K H' l xs := by
  rcases h with (h | ⟨o, h⟩) | h
  · exact .inl (.inl (b _ _ hl h))
  · exact .inl (.inr ⟨o, b _ _ hl h⟩)
  · exact .inr h
theorem But.tup {p l : Addr} {H H' : Hp} {xs : List V} (b : But p H H') (hl : l ≠ p) (h : SqT K H l xs) : SqT K H' l xs := by
  rcases h with (h | ⟨o, h⟩) | h
  · exact .inl (.inl (b _ _ hl h))
  · exact .inl (.inr ⟨o, b _ _ hl h⟩)
  · exact .inr h
theorem small_pow {n : Nat} (h : n ≤ 1000) : n < 2 ^ 8000 := Nat.lt_of_le_of_lt h (Nat.lt_of_lt_of_le (by decide : 1000 < 2 ^ 10) (Nat.pow_le_pow_right (by decide) (by decide)))
theorem ok_pick {f : Addr} {fd : FuncData} (F : Df K "_law_pick" "_law_pick" s_pick [] f fd) (B : Blt mg) (c1 : Ca P w K mg base 1 "_law_draw" sp_draw []) : FnOk P w K mg base CX0 2 f fd ["_law_pot_here", "_law_some"] (sp_pick K) := by
  refine dfOk F sc_pick (fun vs H Q E h => ?_) (fun cdv A outer s H vs Q E hr h => ?_)
  · obtain ⟨p, l, xs, rfl, _⟩ := h
    rfl
  · obtain ⟨p, l, xs, rfl, hp, hl, hS, hne, hlen, q⟩ := h
    refine ⟨_, pss_one (ps_ret (pe_ix ix_list (pv 1) (pe_ca c1 hr (by decide) (by rfl) (pa_cons (pv 0) (pa_cons (pe_callB call_len_seq (by rfl) B.len PySem.boot_len (pa_cons (pv 1) pa_nil)) pa_nil))) (fun _ _ => rfl))), ?_⟩
    have h0 : 0 < xs.length := List.length_pos_iff.mpr hne
    refine ⟨_, rfl, _, rfl, _, rfl, l, xs, rfl, .inl hS, p, _, rfl, hp, by omega, by simpa using small_pow hlen, fun d H' hd hd2 hp' b => ?_⟩
    obtain ⟨j, rfl⟩ := Int.eq_ofNat_of_zero_le hd
    have hj : j < xs.length := by omega
    exact ⟨l, xs, _, xs[j], rfl, rfl, b.seq hl hS, atI_nat (by simp [hj]), q _ _ (List.getElem_mem hj) hp' b⟩
/-! integer -/
def sp_integer : Sp := fun vs H Q _ => ∃ (p : Addr) (m : Int), vs = [.ref p, .int m] ∧ Pot H p ∧ 1000 ≤ m ∧ m.natAbs < 2 ^ 200 ∧ ∀ (i : Int) (H' : Hp), i.natAbs ≤ m.natAbs → Pot H' p → But p H H' → Q (.int i) H'
theorem ok_integer {f : Addr} {fd : FuncData} (F : Df K "_law_integer" "_law_integer" s_integer [] f fd) (c1 : Ca P w K mg base 1 "_law_draw" sp_draw []) (c2 : Ca P w K mg base 2 "_law_pick" (sp_pick K) []) : FnOk P w K mg base CX0 3 f fd ["_law_pot_here", "_law_most"] sp_integer := by
  refine dfOk F sc_integer (fun vs H Q E h => ?_) (fun cdv A outer s H vs Q E hr h => ?_)
  · obtain ⟨p, m, rfl, _⟩ := h
    rfl
  · obtain ⟨p, m, rfl, hp, hm, hz, q⟩ := h
    refine ⟨_, pss_cons (ps_set (i := 2) sc_integer.nd rfl (Or.inl rfl) (pe_ca c1 hr (by decide) (by rfl) (pa_cons (pv 0) (pa_cons (pe_ca c2 hr (by decide) (by rfl) (pa_cons (pv 0) (pa_cons (pe_lst (pa_cons pe_int (pa_cons pe_int (pa_cons pe_int (pa_cons pe_int (pa_cons (pv 1) pa_nil)))))) pa_nil))) pa_nil))))
      (pss_one (ps_ret (pe_ifExp (pt_cmpR op_eq (pe_ca c1 hr (by decide) (by rfl) (pa_cons (pv 0) (pa_cons pe_int pa_nil))) pe_int (nomark _)) (pv 2) (pe_un un_neg (pv 2))))), ?_⟩
    refine ⟨_, rfl, _, rfl, _, rfl, by show 5 ≤ sizeLine; decide, fun l hl => ?_⟩
    refine ⟨p, l, _, rfl, hp.new hl, hp.ne hl, SqL.of upd_same, by simp, by simp, fun v H1 hv hp1 b1 => ?_⟩
    have hw : ∃ n : Int, v = .int n ∧ 0 < n ∧ n.natAbs ≤ m.natAbs := by
      simp only [List.mem_cons, List.not_mem_nil, or_false] at hv
      rcases hv with rfl | rfl | rfl | rfl | rfl
      · exact ⟨2, rfl, by decide, by omega⟩
      · exact ⟨4, rfl, by decide, by omega⟩
      · exact ⟨13, rfl, by decide, by omega⟩
      · exact ⟨1000, rfl, by decide, by omega⟩
      · exact ⟨m, rfl, by omega, Nat.le_refl _⟩
    obtain ⟨n, rfl, hn, hnm⟩ := hw
    have hnz := Nat.lt_of_le_of_lt hnm hz
    have b0 : But p H H1 := (But.new hl).trans b1
    have big : (2 : Nat) ^ 200 < 2 ^ 8000 := Nat.pow_lt_pow_right (by decide) (by decide)
    refine ⟨p, n, rfl, hp1, hn, Nat.lt_trans hnz big, fun d H2 hd hd2 hp2 b2 => ?_⟩
    refine ⟨_, rfl, p, 2, rfl, hp2, by decide, Nat.lt_of_lt_of_le (by decide : (2:Nat) < 2 ^ 200) (Nat.le_of_lt big), fun d' H3 _ _ hp3 b3 => ?_⟩
    have hsz : d.natAbs ≤ m.natAbs := Nat.le_trans (by omega) hnm
    refine ⟨rfl, _, rfl, ?_⟩
    have b' : But p H H3 := b0.trans (b2.trans b3)
    refine ite2 (fun _ => ?_) (fun _ => ?_)
    · exact ⟨_, rfl, q _ _ hsz hp3 b'⟩
    · exact ⟨_, rfl, _, rfl, q _ _ (by rw [Int.natAbs_neg]; exact hsz) hp3 b'⟩
/-! parts: a tuple of two integers, the second one not 0 -/
abbrev S2 (i : Int) : Prop := i.natAbs < 2 ^ 200
def sp_parts : Sp := fun vs H Q _ => ∃ (p : Addr) (m : Int), vs = [.ref p, .int m] ∧ Pot H p ∧ 1000 ≤ m ∧ S2 m ∧ ∀ (t : Addr) (u l : Int) (H' : Hp), u.natAbs ≤ m.natAbs → l.natAbs ≤ m.natAbs → l ≠ 0 → H t = none → H' t = some (.tup [.int u, .int l]) → Pot H' p → But p H H' → Q (.ref t) H'
theorem ok_parts {f : Addr} {fd : FuncData} (F : Df K "_law_parts" "_law_parts" s_parts [] f fd) (c1 : Ca P w K mg base 3 "_law_integer" sp_integer []) (c2 : Ca P w K mg base 2 "_law_pick" (sp_pick K) []) : FnOk P w K mg base CX0 4 f fd ["_law_pot_here", "_law_most"] sp_parts := by
  refine dfOk F sc_parts (fun vs H Q E h => ?_) (fun cdv A outer s H vs Q E hr h => ?_)
  · obtain ⟨p, m, rfl, _⟩ := h
    rfl
  · obtain ⟨p, m, rfl, hp, hm, hz, q⟩ := h
    refine ⟨_, pss_cons (ps_par (i := 2) (j := 3) (by rfl) sc_parts.nd rfl rfl (by decide) rfl rfl (pa_cons (pe_ca c1 hr (by decide) (by rfl) (pa_cons (pv 0) (pa_cons (pv 1) pa_nil))) (pa_cons (pe_ca c1 hr (by decide) (by rfl) (pa_cons (pv 0) (pa_cons (pv 1) pa_nil))) pa_nil)) (by rfl))
      (pss_one (ps_ret (pe_tup (pa_cons (pv 2) (pa_cons (pe_ifExp (pt_cmpR op_ne (pv 3) pe_int (nomark _)) (pv 3) (pe_ca c2 hr (by decide) (by rfl) (pa_cons (pv 0) (pa_cons (pe_lst (pa_cons pe_int (pa_cons (pe_un un_neg pe_int) (pa_cons pe_int pa_nil)))) pa_nil)))) pa_nil))))), ?_⟩
    refine ⟨_, rfl, _, rfl, p, m, rfl, hp, hm, hz, fun u H1 hu hp1 b1 => ?_⟩
    refine ⟨_, rfl, _, rfl, p, m, rfl, hp1, hm, hz, fun l H2 hl hp2 b2 => ?_⟩
    refine ⟨_, _, rfl, _, rfl, _, rfl, rfl, _, rfl, ?_⟩
    have b12 := b1.trans b2
    by_cases e : l = 0
    · subst e
      rw [decide_eq_true rfl]
      refine iteF ?_
      refine ⟨_, rfl, _, rfl, by show 3 ≤ sizeLine; decide, fun a ha => ?_⟩
      refine ⟨p, a, _, rfl, hp2.new ha, hp2.ne ha, SqL.of upd_same, by simp, by simp, fun v H3 hv hp3 b3 => ?_⟩
      have b13 := b12.trans ((But.new ha).trans b3)
      refine ⟨by show 2 ≤ sizeLine; decide, fun t ht => ?_⟩
      have hw : ∃ n : Int, v = .int n ∧ n ≠ 0 ∧ n.natAbs ≤ m.natAbs := by
        simp only [List.mem_cons, List.not_mem_nil, or_false] at hv
        rcases hv with rfl | rfl | rfl
        · exact ⟨1, rfl, by decide, by omega⟩
        · exact ⟨-1, rfl, by decide, by omega⟩
        · exact ⟨6, rfl, by decide, by omega⟩
      obtain ⟨n, rfl, hn, hnz⟩ := hw
      exact q t u n _ hu hnz hn (b13.free (hp3.ne ht) ht) upd_same (hp3.new ht) (b13.trans (But.new ht))
    · rw [decide_eq_false (fun z => e (V.int.inj z))]
      refine iteT ?_
      refine ⟨_, rfl, by show 2 ≤ sizeLine; decide, fun t ht => ?_⟩
      exact q t u l _ hu hl e (b12.free (hp2.ne ht) ht) upd_same (hp2.new ht) (b12.trans (But.new ht))
/-! near: another fraction -/
theorem fdiv_le {u l : Int} (h : l ≠ 0) : (u.fdiv l).natAbs ≤ u.natAbs := by
  by_cases hl : 0 < l
  · rw [Int.fdiv_eq_ediv_of_nonneg _ (Int.le_of_lt hl)]
    exact Int.natAbs_ediv_le_natAbs _ _
  · rw [← Int.neg_fdiv_neg, Int.fdiv_eq_ediv_of_nonneg _ (by omega : 0 ≤ -l)]
    refine Nat.le_trans (Int.natAbs_ediv_le_natAbs _ _) ?_
    rw [Int.natAbs_neg]; exact Nat.le_refl _
abbrev S1 (i : Int) : Prop := i.natAbs ≤ 10 ^ 29
theorem S1.mul {i j : Int} (a : S1 i) (b : S1 j) : (i * j).natAbs ≤ 10 ^ 58 := by
  rw [Int.natAbs_mul, show (10 : Nat) ^ 58 = 10 ^ 29 * 10 ^ 29 by decide]
  exact Nat.mul_le_mul a b
theorem S1.wd {i j : Int} (a : S1 i) (b : S1 j) : CMulW i j := wide_mul (a := 100) (b := 100) (Nat.lt_of_le_of_lt a (by decide)) (Nat.lt_of_le_of_lt b (by decide)) (by decide) (by decide) (by decide)
def sp_near : Sp := fun vs H Q _ => ∃ (p r : Addr) (u l : Int), vs = [.ref p, .ref r] ∧ Pot H p ∧ H r = some (.tup [.int u, .int l]) ∧ S1 u ∧ S1 l ∧ l ≠ 0 ∧
  ∀ (t : Addr) (u' l' : Int) (H' : Hp), S2 u' → S2 l' → l' ≠ 0 → H t = none → H' t = some (.tup [.int u', .int l']) → Pot H' p → But p H H' → Q (.ref t) H'
theorem ok_near {f : Addr} {fd : FuncData} (F : Df K "_law_near" "_law_near" s_near [] f fd) (c1 : Ca P w K mg base 1 "_law_draw" sp_draw []) (c2 : Ca P w K mg base 2 "_law_pick" (sp_pick K) []) (c3 : Ca P w K mg base 4 "_law_parts" sp_parts []) :
    FnOk P w K mg base CX0 5 f fd ["_law_pot_here", "_law_pair"] sp_near := by
  refine dfOk F sc_near (fun vs H Q E h => ?_) (fun cdv A outer s H vs Q E hr h => ?_)
  · obtain ⟨p, r, u, l, rfl, _⟩ := h
    rfl
  · obtain ⟨p, r, u, l, rfl, hp, er, su, sl, hl, q⟩ := h
    refine ⟨_, (pss_cons (ps_asg (pv 1) (pg_tup (by rfl) (pgs_cons (pg_name (i := 2) sc_near.nd rfl (Or.inl rfl)) (pgs_cons (pg_name (i := 3) sc_near.nd rfl (Or.inl rfl)) pgs_nil))))
  (pss_cons (ps_par (i := 4) (j := 5) (by rfl) sc_near.nd rfl rfl (by decide) rfl rfl (pa_cons (pe_ca c1 hr (by decide) (by rfl) (pa_cons (pv 0) (pa_cons pe_int pa_nil))) (pa_cons (pe_op op_add pe_int (pe_ca c1 hr (by decide) (by rfl) (pa_cons (pv 0) (pa_cons (pe_ca c2 hr (by decide) (by rfl) (pa_cons (pv 0) (pa_cons (pe_lst (pa_cons pe_int (pa_cons (pe_op op_pow pe_int pe_int) pa_nil))) pa_nil))) pa_nil)))) pa_nil)) (by rfl))
  (pss_cons (ps_if (pt_cmpR op_eq (pv 4) pe_int (nomark _))
  (pss_one (ps_ret (pe_tup (pa_cons (pe_op op_mulW (pv 2) (pv 5)) (pa_cons (pe_op op_mulW (pv 3) (pv 5)) pa_nil)))))
  pss_nil)
  (pss_cons (ps_if (pt_cmpR op_eq (pv 4) pe_int (nomark _))
  (pss_one (ps_ret (pe_tup (pa_cons (pe_op op_mulW (pe_un un_neg (pv 2)) (pv 5)) (pa_cons (pe_op op_mulW (pe_un un_neg (pv 3)) (pv 5)) pa_nil)))))
  pss_nil)
  (pss_cons (ps_if (pt_cmpR op_eq (pv 4) pe_int (nomark _))
  (pss_one (ps_ret (pe_tup (pa_cons (pe_op op_add (pe_op op_mulW (pv 2) (pv 5)) (pe_ca c2 hr (by decide) (by rfl) (pa_cons (pv 0) (pa_cons (pe_lst (pa_cons pe_int (pa_cons (pe_un un_neg pe_int) pa_nil))) pa_nil)))) (pa_cons (pe_op op_mulW (pv 3) (pv 5)) pa_nil)))))
  pss_nil)
  (pss_cons (ps_if (pt_cmpR op_eq (pv 4) pe_int (nomark _))
  (pss_one (ps_ret (pe_tup (pa_cons (pe_un un_neg (pv 2)) (pa_cons (pv 3) pa_nil)))))
  pss_nil)
  (pss_cons (ps_if (pt_cmpR op_eq (pv 4) pe_int (nomark _))
  (pss_one (ps_ret (pe_tup (pa_cons (pe_op op_add (pe_op op_fdivX (pv 2) (pv 3)) (pe_ca c1 hr (by decide) (by rfl) (pa_cons (pv 0) (pa_cons pe_int pa_nil)))) (pa_cons pe_int pa_nil)))))
  pss_nil)
  (pss_one (ps_ret (pe_ca c3 hr (by decide) (by rfl) (pa_cons (pv 0) (pa_cons (pe_op op_pow pe_int pe_int) pa_nil)))))))))))), ?_⟩
    have big : (2 : Nat) ^ 200 < 2 ^ 8000 := Nat.pow_lt_pow_right (by decide) (by decide)
    have sm2 : (2 : Nat) < 2 ^ 8000 := Nat.lt_of_lt_of_le (by decide : (2:Nat) < 2 ^ 200) (Nat.le_of_lt big)
    refine ⟨_, rfl, r, _, rfl, SqT.of er, rfl, _, _, rfl, _, _, rfl, rfl, ?_⟩
    refine ⟨_, rfl, p, 6, rfl, hp, by decide, Nat.lt_of_lt_of_le (by decide : (6:Nat) < 2 ^ 200) (Nat.le_of_lt big), fun mode H1 hm0 hm6 hp1 b1 => ?_⟩
    refine ⟨_, rfl, _, rfl, _, _, rfl, rfl, ⟨by decide, by decide, by decide⟩, by show 2 ≤ sizeLine; decide, fun a ha => ?_⟩
    refine ⟨p, a, _, rfl, hp1.new ha, hp1.ne ha, SqL.of upd_same, by simp, by simp, fun v H2 hv hp2 b2 => ?_⟩
    have b02 : But p H H2 := b1.trans ((But.new ha).trans b2)
    have hw : ∃ n : Int, v = .int n ∧ 0 < n ∧ n.natAbs ≤ 10 ^ 29 := by
      simp only [List.mem_cons, List.not_mem_nil, or_false] at hv
      rcases hv with rfl | rfl
      · exact ⟨3, rfl, by decide, by decide⟩
      · exact ⟨10 ^ 29, rfl, by decide, by decide⟩
    obtain ⟨n, rfl, hn, hn29⟩ := hw
    refine ⟨p, n, rfl, hp2, hn, Nat.lt_of_le_of_lt hn29 (Nat.lt_trans (by decide : 10 ^ 29 < 2 ^ 200) big), fun d H3 hd hdn hp3 b3 => ?_⟩
    have b03 : But p H H3 := b02.trans b3
    have sby : S1 (1 + d) := by show (1 + d).natAbs ≤ 10 ^ 29; omega
    have hby : (1 + d) ≠ 0 := by omega
    have t58 : (10 : Nat) ^ 58 < 2 ^ 200 := by decide
    have er3 : r ≠ p := by
      obtain ⟨x, y, e, _⟩ := hp.ex
      exact ne_of er e (by intro z; cases z)
    have fin : ∀ (u' l' : Int) (H' : Hp), S2 u' → S2 l' → l' ≠ 0 → Pot H' p → But p H H' → ∀ t, H' t = none → Q (.ref t) (upd H' t (.tup [.int u', .int l'])) := fun u' l' H' h1 h2 h3 h4 h5 t ht =>
      q t u' l' _ h1 h2 h3 (h5.free (h4.ne ht) ht) upd_same (h4.new ht) (h5.trans (But.new ht))
    have n0 : (u * (1 + d)).natAbs < 2 ^ 200 := Nat.lt_of_le_of_lt (su.mul sby) t58
    have n1 : (l * (1 + d)).natAbs < 2 ^ 200 := Nat.lt_of_le_of_lt (sl.mul sby) t58
    have n2 : l * (1 + d) ≠ 0 := Int.mul_ne_zero hl hby
    have su' : S1 (-u) := by rw [S1, Int.natAbs_neg]; exact su
    have sl' : S1 (-l) := by rw [S1, Int.natAbs_neg]; exact sl
    refine ⟨_, _, rfl, rfl, _, _, rfl, ?_⟩
    -- mode 0
    refine ⟨_, rfl, rfl, _, rfl, ite2 (fun _ => ?_) (fun _ => ?_)⟩
    · refine ⟨_, rfl, _, rfl, _, _, rfl, rfl, su.wd sby, _, rfl, _, rfl, _, _, rfl, rfl, sl.wd sby, by show 2 ≤ sizeLine; decide, ?_⟩
      exact fin _ _ _ n0 n1 n2 hp3 b03
    refine ⟨_, rfl, rfl, _, rfl, ite2 (fun _ => ?_) (fun _ => ?_)⟩
    · refine ⟨_, rfl, _, rfl, _, rfl, _, _, rfl, rfl, su'.wd sby, _, rfl, _, rfl, _, rfl, _, _, rfl, rfl, sl'.wd sby, by show 2 ≤ sizeLine; decide, ?_⟩
      refine fin _ _ _ ?_ ?_ ?_ hp3 b03
      · show (-u * (1 + d)).natAbs < 2 ^ 200
        exact Nat.lt_of_le_of_lt (su'.mul sby) t58
      · show (-l * (1 + d)).natAbs < 2 ^ 200
        exact Nat.lt_of_le_of_lt (sl'.mul sby) t58
      · show -l * (1 + d) ≠ 0
        exact Int.mul_ne_zero (by omega) hby
    refine ⟨_, rfl, rfl, _, rfl, ite2 (fun _ => ?_) (fun _ => ?_)⟩
    · refine ⟨_, rfl, _, rfl, _, _, rfl, rfl, su.wd sby, _, rfl, _, rfl, by show 2 ≤ sizeLine; decide, fun a ha => ?_⟩
      refine ⟨p, a, _, rfl, hp3.new ha, hp3.ne ha, SqL.of upd_same, by simp, by simp, fun v H4 hv hp4 b4 => ?_⟩
      have b04 : But p H H4 := b03.trans ((But.new ha).trans b4)
      have hw : ∃ n : Int, v = .int n ∧ n.natAbs ≤ 1 := by
        simp only [List.mem_cons, List.not_mem_nil, or_false] at hv
        rcases hv with rfl | rfl
        · exact ⟨1, rfl, by decide⟩
        · exact ⟨-1, rfl, by decide⟩
      obtain ⟨m, rfl, hm1⟩ := hw
      refine ⟨_, _, rfl, rfl, _, rfl, _, rfl, _, _, rfl, rfl, sl.wd sby, by show 2 ≤ sizeLine; decide, ?_⟩
      refine fin _ _ _ ?_ n1 n2 hp4 b04
      show (u * (1 + d) + m).natAbs < 2 ^ 200
      have h58 := su.mul sby
      have h58' : (10 : Nat) ^ 58 + 1 < 2 ^ 200 := by decide
      exact Nat.lt_of_le_of_lt (Nat.le_trans (Int.natAbs_add_le _ _) (Nat.add_le_add h58 hm1)) h58'
    have su2 : S2 u := Nat.lt_of_le_of_lt su (by decide)
    have sl2 : S2 l := Nat.lt_of_le_of_lt sl (by decide)
    refine ⟨_, rfl, rfl, _, rfl, ite2 (fun _ => ?_) (fun _ => ?_)⟩
    · refine ⟨_, rfl, _, rfl, _, rfl, by show 2 ≤ sizeLine; decide, ?_⟩
      exact fin _ _ _ (Nat.lt_of_le_of_lt su' (by decide)) sl2 hl hp3 b03
    refine ⟨_, rfl, rfl, _, rfl, ite2 (fun _ => ?_) (fun _ => ?_)⟩
    · refine ⟨_, rfl, _, rfl, _, _, rfl, rfl, ⟨hl, Nat.lt_trans (Rm.log_lt sl2 (by decide)) (by decide)⟩, _, rfl, p, 2, rfl, hp3, by decide, sm2, fun d' H4 h0 h1 hp4 b4 => ?_⟩
      refine ⟨_, _, rfl, rfl, by show 2 ≤ sizeLine; decide, ?_⟩
      refine fin _ _ _ ?_ (by show (1 : Int).natAbs < 2 ^ 200; decide) (by decide) hp4 (b03.trans b4)
      show (u.fdiv l + d').natAbs < 2 ^ 200
      have h29 : (u.fdiv l).natAbs ≤ 10 ^ 29 := Nat.le_trans (fdiv_le hl) su
      have h30 : d'.natAbs ≤ 1 := by omega
      exact Nat.lt_of_le_of_lt (Nat.le_trans (Int.natAbs_add_le _ _) (Nat.add_le_add h29 h30)) (by decide)
    · refine ⟨_, rfl, _, _, rfl, rfl, ⟨by decide, by decide, by decide⟩, p, 10 ^ 59, rfl, hp3, by decide, by decide, fun t u' l' H4 h1 h2 h3 ht h4 hp4 b4 => ?_⟩
      refine q t u' l' H4 (Nat.lt_of_le_of_lt h1 (by decide)) (Nat.lt_of_le_of_lt h2 (by decide)) h3 (b03.free (hp3.ne ht) ht) h4 hp4 (b03.trans b4)
/-! order -/
def sp_order : Sp := fun vs H Q _ => ∃ (p r : Addr) (a b c d : Int), vs = [.ref p, .ref r] ∧ H p = some (.tup [.int a, .int b]) ∧ H r = some (.tup [.int c, .int d]) ∧ Sz a ∧ Sz b ∧ Sz c ∧ Sz d ∧ Q (.int (Rm.ord a b c d)) H
theorem ok_order {f : Addr} {fd : FuncData} (F : Df K "_law_order" "_law_order" s_order [] f fd) (B : Blt mg) : FnOk P w K mg base CX0 1 f fd ["_law_one", "_law_fellow"] sp_order := by
  refine dfOk F sc_order (fun vs H Q E h => ?_) (fun cdv A outer s H vs Q E hr h => ?_)
  · obtain ⟨p, r, a, b, c, d, rfl, _⟩ := h
    rfl
  · obtain ⟨p, r, a, b, c, d, rfl, ep, er, sa, sb, sc, sd, q⟩ := h
    refine ⟨_, (pss_cons (ps_par (i := 2) (j := 3) (by rfl) sc_order.nd rfl rfl (by decide) rfl rfl (pa_cons (pe_op op_mulW (pe_ix ix_tup (pv 0) pe_int (fun _ _ => rfl)) (pe_ix ix_tup (pv 1) pe_int (fun _ _ => rfl))) (pa_cons (pe_op op_mulW (pe_ix ix_tup (pv 1) pe_int (fun _ _ => rfl)) (pe_ix ix_tup (pv 0) pe_int (fun _ _ => rfl))) pa_nil)) (by rfl))
  (pss_cons (ps_if (pt_cmpR op_ne (pe_cmpR op_lt (pe_ix ix_tup (pv 0) pe_int (fun _ _ => rfl)) pe_int (nomark _)) (pe_cmpR op_lt (pe_ix ix_tup (pv 1) pe_int (fun _ _ => rfl)) pe_int (nomark _)) (nomark _))
  (pss_one (ps_par (i := 2) (j := 3) (by rfl) sc_order.nd rfl rfl (by decide) rfl rfl (pa_cons (pv 3) (pa_cons (pv 2) pa_nil)) (by rfl)))
  pss_nil)
  (pss_one (ps_ret (pe_op op_sub (pe_callTy call_int1 (by rfl) B.int bt_int (pa_cons (pe_cmpR op_gt (pv 2) (pv 3) (nomark _)) pa_nil)) (pe_callTy call_int1 (by rfl) B.int bt_int (pa_cons (pe_cmpR op_lt (pv 2) (pv 3) (nomark _)) pa_nil))))))), ?_⟩
    have ix : ∀ (z : Addr) (x y : Int), H z = some (.tup [.int x, .int y]) → SqT K H z [.int x, .int y] := fun z x y e => SqT.of e
    refine ⟨_, rfl, p, _, _, _, rfl, rfl, ix _ _ _ ep, rfl, _, rfl, r, _, _, _, rfl, rfl, ix _ _ _ er, rfl, _, _, rfl, rfl, sa.mul sd,
      _, rfl, r, _, _, _, rfl, rfl, ix _ _ _ er, rfl, _, rfl, p, _, _, _, rfl, rfl, ix _ _ _ ep, rfl, _, _, rfl, rfl, sc.mul sb, _, _, rfl, ?_⟩
    refine ⟨_, rfl, p, _, _, _, rfl, rfl, ix _ _ _ ep, rfl, _, _, rfl, rfl, _, rfl, r, _, _, _, rfl, rfl, ix _ _ _ er, rfl, _, _, rfl, rfl, rfl, _, rfl, ?_⟩
    have hb : ∀ x y : Bool, (!decide (V.bl x = V.bl y)) = (x != y) := by decide
    have e1 : (!decide (V.bl (decide (b < 0)) = V.bl (decide (d < 0)))) = (decide (b < 0) != decide (d < 0)) := hb _ _
    have tail : ∀ (x y : Int), Rm.ord a b c d = (if y < x then 1 else 0) - (if x < y then 1 else 0) → ∀ σ : L2.St, σ[2]? = some (some (V.int x)) → σ[3]? = some (some (V.int y)) →
        tRet (tOp (rI0 fun i j => V.int (i - j)) (tCB (fun xs H Q => (∃ i, xs = [V.int i] ∧ Q (V.int i) H) ∨ ∃ k, xs = [V.bl k] ∧ Q (V.int (if k = true then 1 else 0)) H) (tCons (tOp (rI0 fun i j => V.bl (decide (j < i))) (tVar 2) (tVar 3)) tNil))
          (tCB (fun xs H Q => (∃ i, xs = [V.int i] ∧ Q (V.int i) H) ∨ ∃ k, xs = [V.bl k] ∧ Q (V.int (if k = true then 1 else 0)) H) (tCons (tOp (rI0 fun i j => V.bl (decide (i < j))) (tVar 2) (tVar 3)) tNil))) { nx := fun _ H' => Q .non H', rt := Q } σ H := by
      intro x y ho σ h2 h3
      refine ⟨_, h2, _, h3, _, _, rfl, rfl, .inr ⟨_, rfl, _, h2, _, h3, _, _, rfl, rfl, .inr ⟨_, rfl, _, _, rfl, rfl, ?_⟩⟩⟩
      show Q (.int ((if decide (y < x) = true then 1 else 0) - (if decide (x < y) = true then 1 else 0))) H
      simp only [decide_eq_true_eq]
      rw [← ho]
      exact q
    refine ite2 (fun h => ?_) (fun h => ?_)
    · refine ⟨_, rfl, _, rfl, _, _, rfl, ?_⟩
      refine tail (c * b) (a * d) ?_ _ rfl rfl
      unfold Rm.ord
      rw [if_pos (e1 ▸ h)]
    · refine tail (a * d) (c * b) ?_ _ rfl rfl
      unfold Rm.ord
      rw [if_neg (fun z => h (e1 ▸ z))]
end
end T
set_option Elab.async false
set_option maxRecDepth 100000
set_option maxHeartbeats 4000000
namespace T
open PySem L2 Mv
abbrev s_pair : Stmt := top 23
theorem sc_pair : FnScope ["_law_one", "_law_fellow", "_law_a", "_law_b", "_law_order_here", "_law_told"] ["_law_one", "_law_fellow", "_law_a", "_law_b"] (defScope s_pair) := ⟨rfl, rfl, rfl, by decide +kernel, rfl, by decide +kernel, by decide +kernel⟩
section
variable {P : Program} {w : World} {K : PySem.W.Frag} {mg : Str → Option Value} {base : Heap} {C : Addr}
theorem same_new {H : Hp} {p : Addr} {o : HO} (h : H p = none) : Same H (upd H p o) := fun z u e => by rw [upd_ne (ne_of_none e h)]; exact e
/-- the Ratio of the fraction u/l stands at x -/
structure Frac (C : Addr) (H : Hp) (x : Addr) (u l : Int) : Prop where
  ob : ∃ dx, H x = some (.ins C dx (flds (Rm.rt u l) (Rm.rb u l)))
  ne : l ≠ 0
  su : S2 u
  sl : S2 l
theorem S2.sz {i : Int} (h : S2 i) : Sz i := Nat.lt_of_lt_of_le h (Nat.pow_le_pow_right (by decide) (by decide))
theorem Frac.st {H : Hp} {x : Addr} {u l : Int} (f : Frac C H x u l) : Sz (Rm.rt u l) := Nat.lt_of_le_of_lt (Rm.rt_le f.ne) f.su.sz
theorem Frac.sb {H : Hp} {x : Addr} {u l : Int} (f : Frac C H x u l) : Sz (Rm.rb u l) := Nat.lt_of_le_of_lt (Rm.rb_le f.ne) f.sl.sz
theorem Frac.same {H H' : Hp} {x : Addr} {u l : Int} (f : Frac C H x u l) (s : Same H H') : Frac C H' x u l := ⟨let ⟨dx, e⟩ := f.ob; ⟨dx, s _ _ e⟩, f.ne, f.su, f.sl⟩
/-- what is wanted of ==, of !=, by the promise of __eq__ -/
theorem eqO (R : Rat K mg C) {H : Hp} {x y : Addr} {a b c d : Int} {Q : VK} (hx : Frac C H x a b) (hy : Frac C H y c d) (q : Q (.bl (decide (Rm.rt a b = Rm.rt c d ∧ Rm.rb a b = Rm.rb c d))) H) : rEqO K C (sp_eq K C) (.ref x) (.ref y) H Q := by
  obtain ⟨dx, ex⟩ := hx.ob
  obtain ⟨dy, ey⟩ := hy.ob
  exact ⟨x, dx, _, .ref C, rfl, ex, R.ty ey, R.nf, x, dx, _, _, _, rfl, ex, .inl ⟨y, dy, _, _, rfl, ey, q⟩⟩
theorem neO (R : Rat K mg C) {H : Hp} {x y : Addr} {a b c d : Int} {Q : VK} (hx : Frac C H x a b) (hy : Frac C H y c d) (q : Q (.bl (!decide (Rm.rt a b = Rm.rt c d ∧ Rm.rb a b = Rm.rb c d))) H) : rNeO K C (sp_eq K C) (.ref x) (.ref y) H Q := by
  obtain ⟨dx, ex⟩ := hx.ob
  obtain ⟨dy, ey⟩ := hy.ob
  exact ⟨x, dx, _, .ref C, rfl, ex, R.ty ey, R.nf, x, dx, _, _, _, rfl, ex, .inl ⟨y, dy, _, _, rfl, ey, _, rfl, q⟩⟩
theorem belowO {H : Hp} {x y : Addr} {a b c d : Int} {Q : VK} (hx : Frac C H x a b) (hy : Frac C H y c d) (q : ∀ H', Same H H' → Q (.bl (decide (Rm.rt a b * Rm.rb c d < Rm.rt c d * Rm.rb a b))) H') : sp_below C [.ref x, .ref y] H Q E0 := by
  obtain ⟨dx, ex⟩ := hx.ob
  obtain ⟨dy, ey⟩ := hy.ob
  exact ⟨x, dx, _, _, _, _, _, rfl, ex, .rat ey, hx.st, hx.sb, hy.st, hy.sb, q⟩
/-- a list of bools, shown -/
def bdat (bs : List Bool) : PyData := .list (bs.map .bool)
theorem dp_bools {H : Hp} : ∀ bs : List Bool, DpAll K H (bs.map V.bl) (bs.map PyData.bool)
  | [] => .nil
  | b :: bs => .cons (.bl b) (dp_bools bs)
theorem bd6 (a b c d e f : Bool) : (bdat [a, b, c, d, e, f]).showable = true ∧ (bdat [a, b, c, d, e, f]).hasDict = false ∧ (bdat [a, b, c, d, e, f]).depth ≤ 60 ∧ (bdat [a, b, c, d, e, f]).shown.length ≤ sizeLine := by
  cases a <;> cases b <;> cases c <;> cases d <;> cases e <;> cases f <;> decide +kernel
def sp_pair (C : Addr) : Sp := fun vs H Q _ => ∃ (x y p r : Addr) (a b c d : Int), vs = [.ref x, .ref y, .ref p, .ref r] ∧ Frac C H x a b ∧ Frac C H y c d ∧ H p = some (.tup [.int a, .int b]) ∧ H r = some (.tup [.int c, .int d]) ∧ ∀ H', Same H H' → Q (.bl true) H'
theorem ok_pair {f : Addr} {fd : FuncData} (F : Df K "_law_pair_right" "_law_pair_right" s_pair [] f fd) (B : Blt mg) (R : Rat K mg C) (cO : Ca P w K mg base 1 "_law_order" sp_order []) (cB : Me P w K mg base 5 C "is_below" (sp_below C) []) (cEq : Op2 P w K mg base 1 C "__eq__" (sp_eq K C)) :
    FnG P w K mg base 6 f fd ["_law_one", "_law_fellow", "_law_a", "_law_b"] (sp_pair C) := by
  refine dfG F sc_pair (fun vs H Q E h => ?_) (fun cdv A outer s H vs Q E hr ga h => ?_)
  · obtain ⟨x, y, p, r, a, b, c, d, rfl, _⟩ := h
    rfl
  · obtain ⟨x, y, p, r, a, b, c, d, rfl, hx, hy, ep, er, q⟩ := h
    have hr1 : Room 1 _ := hr.mono (by decide)
    have hr2 : Room 2 _ := hr.mono (by decide)
    refine ⟨_, (pss_cons (ps_set (i := 4) sc_pair.nd rfl (Or.inl rfl) (pe_ca cO hr (by decide) (by rfl) (pa_cons (pv 2) (pa_cons (pv 3) pa_nil))))
  (pss_cons (ps_set (i := 5) sc_pair.nd rfl (Or.inl rfl) (pe_lst (pa_cons (pe_me cB hr (by decide) (pv 0) (pa_cons (pv 1) pa_nil)) (pa_cons (pe_me cB hr (by decide) (pv 1) (pa_cons (pv 0) pa_nil)) (pa_cons (pe_cmpR (op_eqO' cEq hr (by decide)) (pv 0) (pv 1) (nomark _)) (pa_cons (pe_cmpR (op_eqO' cEq hr (by decide)) (pv 1) (pv 0) (nomark _)) (pa_cons (pe_cmpR (op_neO' cEq hr (by decide) R.ne R.hm) (pv 0) (pv 1) (nomark _)) (pa_cons (pe_cmpR (op_neO' cEq hr (by decide) R.ne R.hm) (pv 1) (pv 0) (nomark _)) pa_nil))))))))
  (pss_cons (ps_if (pt_cmpR op_ne (pe_callB (call_reprD ga hr) (by rfl) B.repr bt_repr (pa_cons (pv 5) pa_nil)) (pe_callB (call_reprD ga hr) (by rfl) B.repr bt_repr (pa_cons (pe_lst (pa_cons (pe_cmpR op_lt (pv 4) pe_int (nomark _)) (pa_cons (pe_cmpR op_gt (pv 4) pe_int (nomark _)) (pa_cons (pe_cmpR op_eq (pv 4) pe_int (nomark _)) (pa_cons (pe_cmpR op_eq (pv 4) pe_int (nomark _)) (pa_cons (pe_cmpR op_ne (pv 4) pe_int (nomark _)) (pa_cons (pe_cmpR op_ne (pv 4) pe_int (nomark _)) pa_nil))))))) pa_nil)) (nomark _))
  (pss_one (ps_ret pe_bl))
  pss_nil)
  (pss_one (ps_ret (pe_and (pe_not (pe_me cB hr (by decide) (pv 0) (pa_cons (pv 0) pa_nil))) (pe_one (pe_cmpR (op_eqO' cEq hr (by decide)) (pv 0) (pv 0) (nomark _))))))))), ?_⟩
    obtain ⟨dx, ex⟩ := id hx.ob
    obtain ⟨dy, ey⟩ := id hy.ob
    refine ⟨_, rfl, _, rfl, p, r, a, b, c, d, rfl, ep, er, hx.su.sz, hx.sl.sz, hy.su.sz, hy.sl.sz, ?_⟩
    refine ⟨_, rfl, x, dx, _, rfl, ex, rfl, _, rfl, x, dx, _, _, _, _, _, rfl, ex, .rat ey, hx.st, hx.sb, hy.st, hy.sb, fun H1 s1 => ?_⟩
    refine ⟨_, rfl, y, dy, _, rfl, s1 _ _ ey, rfl, _, rfl, y, dy, _, _, _, _, _, rfl, s1 _ _ ey, .rat (s1 _ _ ex), hy.st, hy.sb, hx.st, hx.sb, fun H2 s2 => ?_⟩
    have s12 := s1.trans s2
    have hx2 := hx.same s12
    have hy2 := hy.same s12
    refine ⟨_, rfl, _, rfl, ?_⟩
    show rEqO K C (sp_eq K C) (.ref x) (.ref y) _ _
    refine eqO R hx2 hy2 ?_
    refine ⟨_, rfl, _, rfl, ?_⟩
    show rEqO K C (sp_eq K C) (.ref y) (.ref x) _ _
    refine eqO R hy2 hx2 ?_
    refine ⟨_, rfl, _, rfl, ?_⟩
    show rNeO K C (sp_eq K C) (.ref x) (.ref y) _ _
    refine neO R hx2 hy2 ?_
    refine ⟨_, rfl, _, rfl, ?_⟩
    show rNeO K C (sp_eq K C) (.ref y) (.ref x) _ _
    refine neO R hy2 hx2 ?_
    refine ⟨by show 6 ≤ sizeLine; decide, fun l hl => ?_⟩
    have f1 : decide (Rm.rt a b * Rm.rb c d < Rm.rt c d * Rm.rb a b) = decide (Rm.ord a b c d < 0) := decide_eq_decide.mpr (Rm.ord_lt hx.ne hy.ne).symm
    have f2 : decide (Rm.rt c d * Rm.rb a b < Rm.rt a b * Rm.rb c d) = decide (0 < Rm.ord a b c d) := decide_eq_decide.mpr (Rm.ord_gt hx.ne hy.ne).symm
    have f0 : decide (V.int (Rm.ord a b c d) = V.int 0) = decide (Rm.ord a b c d = 0) := decide_eq_decide.mpr ⟨fun z => V.int.inj z, fun z => by rw [z]⟩
    have f3 : decide (Rm.rt a b = Rm.rt c d ∧ Rm.rb a b = Rm.rb c d) = decide (V.int (Rm.ord a b c d) = V.int 0) := by rw [f0]; exact decide_eq_decide.mpr (Rm.ord_eq hx.ne hy.ne).symm
    have f4 : decide (Rm.rt c d = Rm.rt a b ∧ Rm.rb c d = Rm.rb a b) = decide (V.int (Rm.ord a b c d) = V.int 0) := by
      rw [← f3]; exact decide_eq_decide.mpr ⟨fun z => ⟨z.1.symm, z.2.symm⟩, fun z => ⟨z.1.symm, z.2.symm⟩⟩
    rw [f1, f2, f3, f4]
    have bd := bd6 (decide (Rm.ord a b c d < 0)) (decide (0 < Rm.ord a b c d)) (decide (V.int (Rm.ord a b c d) = V.int 0)) (decide (V.int (Rm.ord a b c d) = V.int 0)) (!decide (V.int (Rm.ord a b c d) = V.int 0)) (!decide (V.int (Rm.ord a b c d) = V.int 0))
    obtain ⟨d1, d2, d3, d4⟩ := bd
    refine ⟨_, rfl, l, _, rfl, .lst (SqL.of upd_same) (dp_bools [_, _, _, _, _, _]), d1, d2, d3, d4, ?_⟩
    refine ⟨_, rfl, _, _, rfl, rfl, _, rfl, _, _, rfl, rfl, _, rfl, rfl, _, rfl, rfl, _, rfl, rfl, _, rfl, rfl, by show 6 ≤ sizeLine; decide, fun m hm => ?_⟩
    refine ⟨m, _, rfl, .lst (SqL.of upd_same) (dp_bools [_, _, _, _, _, _]), d1, d2, d3, d4, rfl, _, rfl, ?_⟩
    rw [decide_eq_true rfl]
    refine iteF ?_
    have s4 := fun o => s12.trans ((same_new hl).trans (same_new (o := o) hm))
    have ex3 := fun o => s4 o _ _ ex
    refine ⟨_, rfl, x, dx, _, rfl, ex3 _, rfl, _, rfl, x, dx, _, _, _, _, _, rfl, ex3 _, .rat (ex3 _), hx.st, hx.sb, hx.st, hx.sb, fun H5 s5 => ⟨_, rfl, _, rfl, ?_⟩⟩
    have s6 := (s4 _).trans s5
    rw [decide_eq_false (Int.lt_irrefl _)]
    refine iteT ?_
    refine ⟨_, rfl, _, rfl, ?_⟩
    show rEqO K C (sp_eq K C) (.ref x) (.ref x) _ _
    refine eqO R (hx.same s6) (hx.same s6) ?_
    rw [decide_eq_true ⟨rfl, rfl⟩]
    exact q _ s6
end
end T
set_option Elab.async false
set_option maxRecDepth 100000
set_option maxHeartbeats 4000000
namespace T
open PySem L2 Mv
abbrev s_whole : Stmt := top 24
theorem sc_whole : FnScope ["_law_one", "_law_a", "_law_least", "_law_n", "_law_order_here"] ["_law_one", "_law_a"] (defScope s_whole) := ⟨rfl, rfl, rfl, by decide +kernel, rfl, by decide +kernel, by decide +kernel⟩
section
variable {P : Program} {w : World} {K : PySem.W.Frag} {mg : Str → Option Value} {base : Heap} {C : Addr}
theorem eqI (R : Rat K mg C) {H : Hp} {x dx : Addr} {t b n : Int} {Q : VK} (ex : H x = some (.ins C dx (flds t b))) (q : Q (.bl false) H) : rEqO K C (sp_eq K C) (.ref x) (.int n) H Q := by
  have o := R.oth "int" (by simp)
  exact ⟨x, dx, _, .type "int", rfl, ex, .base (.int n), o.2, x, dx, _, _, _, rfl, ex, .inr ⟨.type "int", .base (.int n), o.1, q⟩⟩
theorem neI (R : Rat K mg C) {H : Hp} {x dx : Addr} {t b n : Int} {Q : VK} (ex : H x = some (.ins C dx (flds t b))) (q : Q (.bl true) H) : rNeO K C (sp_eq K C) (.ref x) (.int n) H Q := by
  have o := R.oth "int" (by simp)
  exact ⟨x, dx, _, .type "int", rfl, ex, .base (.int n), o.2, x, dx, _, _, _, rfl, ex, .inr ⟨.type "int", .base (.int n), o.1, _, rfl, q⟩⟩
theorem eqR (R : Rat K mg C) {H : Hp} {x y dx dy : Addr} {t b u d : Int} {Q : VK} (ex : H x = some (.ins C dx (flds t b))) (ey : H y = some (.ins C dy (flds u d))) (q : Q (.bl (decide (t = u ∧ b = d))) H) : rEqO K C (sp_eq K C) (.ref x) (.ref y) H Q :=
  ⟨x, dx, _, .ref C, rfl, ex, R.ty ey, R.nf, x, dx, _, _, _, rfl, ex, .inl ⟨y, dy, _, _, rfl, ey, q⟩⟩
def idat (i j : Int) : PyData := .list [.int i, .int j]
theorem id_len {i j : Int} (hi : Sz i) (hj : Sz j) : (idat i j).shown.length ≤ sizeLine := by
  have e : (idat i j).shown = "[" ++ "" ++ num i ++ ", " ++ num j ++ "]" := by
    show listText [num i, num j] = _
    rfl
  have l1 := num_len hi
  have l2 := num_len hj
  rw [e, app_len, app_len, app_len, app_len, app_len]
  have z1 : ("[" : Str).length = 1 := rfl
  have z2 : (", " : Str).length = 2 := rfl
  have z3 : ("]" : Str).length = 1 := rfl
  have z4 : ("" : Str).length = 0 := rfl
  unfold sizeLine
  omega
theorem id_show {i j : Int} (hi : Sz i) (hj : Sz j) : (idat i j).showable = true ∧ (idat i j).hasDict = false ∧ (idat i j).depth ≤ 60 := by
  refine ⟨?_, rfl, ?_⟩
  · simp only [idat, PyData.showable, PyData.showableAll, decide_eq_true hi.log, decide_eq_true hj.log, Bool.and_self]
  · simp only [idat, PyData.depth, PyData.depthAll]; decide
theorem bd2 (a b : Bool) : (bdat [a, b]).showable = true ∧ (bdat [a, b]).hasDict = false ∧ (bdat [a, b]).depth ≤ 60 ∧ (bdat [a, b]).shown.length ≤ sizeLine := by
  cases a <;> cases b <;> decide +kernel
def sp_whole (C : Addr) : Sp := fun vs H Q _ => ∃ (x p : Addr) (a b : Int), vs = [.ref x, .ref p] ∧ Frac C H x a b ∧ H p = some (.tup [.int a, .int b]) ∧ ∀ H', Same H H' → Q (.bl true) H'
theorem ok_whole {f : Addr} {fd : FuncData} (F : Df K "_law_whole_right" "_law_whole_right" s_whole [] f fd) (B : Blt mg) (R : Rat K mg C) (cO : Ca P w K mg base 1 "_law_order" sp_order []) (cB : Me P w K mg base 5 C "is_below" (sp_below C) [])
    (cBk : MeK P w K mg base 5 C "is_below" (sp_below C) ["other"] (fun vs zs => vs ++ zs)) (cF : Me P w K mg base 1 C "floor" (sp_floor C) []) (cR : Ma P w K mg base 2 "Ratio" C (sp_init C) [.int 1]) (cEq : Op2 P w K mg base 1 C "__eq__" (sp_eq K C)) :
    FnG P w K mg base 6 f fd ["_law_one", "_law_a"] (sp_whole C) := by
  refine dfG F sc_whole (fun vs H Q E h => ?_) (fun cdv A outer s H vs Q E hr ga h => ?_)
  · obtain ⟨x, p, a, b, rfl, _⟩ := h
    rfl
  · obtain ⟨x, p, a, b, rfl, hx, ep, q⟩ := h
    have hr1 : Room 1 _ := hr.mono (by decide)
    have hr2 : Room 2 _ := hr.mono (by decide)
    refine ⟨_, (pss_cons (ps_set (i := 2) sc_whole.nd rfl (Or.inl rfl) (pe_op op_fdivX (pe_ix ix_tup (pv 1) pe_int (fun _ _ => rfl)) (pe_ix ix_tup (pv 1) pe_int (fun _ _ => rfl))))
  (pss_cons (ps_if (pt_cmpR op_ne (pe_callB (call_reprD ga hr) (by rfl) B.repr bt_repr (pa_cons (pe_lst (pa_cons (pe_me0 cF hr (by decide) (pv 0)) (pa_cons (pe_me0 cF hr (by decide) (pv 0)) pa_nil))) pa_nil)) (pe_callB (call_reprD ga hr) (by rfl) B.repr bt_repr (pa_cons (pe_lst (pa_cons (pv 2) (pa_cons (pv 2) pa_nil))) pa_nil)) (nomark _))
  (pss_one (ps_ret pe_bl))
  pss_nil)
  (pss_cons (ps_for PassesOwn.never rfl (pi_list (pe_lst (pa_cons (pe_op op_sub (pv 2) pe_int) (pa_cons (pv 2) (pa_cons (pe_op op_add (pv 2) pe_int) (pa_cons pe_int pa_nil)))))) (pg_name (i := 3) sc_whole.nd rfl (Or.inl rfl))
  (pss_cons (ps_set (i := 4) sc_whole.nd rfl (Or.inl rfl) (pe_ca cO hr (by decide) (by rfl) (pa_cons (pv 1) (pa_cons (pe_tup (pa_cons (pv 3) (pa_cons pe_int pa_nil))) pa_nil))))
  (pss_cons (ps_if (pt_cmpR op_ne (pe_callB (call_reprD ga hr) (by rfl) B.repr bt_repr (pa_cons (pe_lst (pa_cons (pe_me cB hr (by decide) (pv 0) (pa_cons (pv 3) pa_nil)) (pa_cons (pe_mek cBk hr (by decide) (pv 0) (pk_cons (pv 3) pk_nil)) pa_nil))) pa_nil)) (pe_callB (call_reprD ga hr) (by rfl) B.repr bt_repr (pa_cons (pe_lst (pa_cons (pe_cmpR op_lt (pv 4) pe_int (nomark _)) (pa_cons (pe_cmpR op_lt (pv 4) pe_int (nomark _)) pa_nil))) pa_nil)) (nomark _))
  (pss_one (ps_ret pe_bl))
  pss_nil)
  (pss_cons (ps_if (PW.pt (pw_or (pt_cmpR (op_eqO' cEq hr (by decide)) (pv 0) (pv 3) (nomark _)) (pw_or (pt_not (pt_cmpR (op_neO' cEq hr (by decide) R.ne R.hm) (pv 0) (pv 3) (nomark _))) (pw_or1 (pt_cmpR (op_eqO' cEq hr (by decide)) (pe_ma cR hr (by decide) (by rfl) (pa_cons (pv 3) pa_nil)) (pv 3) (nomark _))))))
  (pss_one (ps_ret pe_bl))
  pss_nil)
  (pss_one (ps_if (pt_cmpR op_ne (pe_cmpR (op_eqO' cEq hr (by decide)) (pv 0) (pe_ma cR hr (by decide) (by rfl) (pa_cons (pv 3) pa_nil)) (nomark _)) (pe_cmpR op_eq (pv 4) pe_int (nomark _)) (nomark _))
  (pss_one (ps_ret pe_bl))
  pss_nil))))))
  (pss_one (ps_ret pe_bl))))), ?_⟩
    obtain ⟨dx, ex⟩ := id hx.ob
    have hbw : (Rm.rb a b).natAbs < 2 ^ 8000 := hx.sb.wide
    have hb0 : 0 < Rm.rb a b := Rm.rb_pos hx.ne
    have sl : Sz (a.fdiv b) := Nat.lt_of_le_of_lt (fdiv_le hx.ne) hx.su.sz
    obtain ⟨i1, i2, i3⟩ := id_show sl sl
    refine ⟨_, rfl, p, _, _, _, rfl, rfl, SqT.of ep, rfl, _, rfl, p, _, _, _, rfl, rfl, SqT.of ep, rfl, _, _, rfl, rfl, ⟨hx.ne, Nat.lt_trans hx.sl.sz.log (by decide)⟩, ?_⟩
    refine ⟨_, rfl, x, dx, _, rfl, ex, rfl, x, dx, _, _, rfl, ex, hb0, hbw, _, rfl, x, dx, _, rfl, ex, rfl, x, dx, _, _, rfl, ex, hb0, hbw, by show 2 ≤ sizeLine; decide, fun l hl => ?_⟩
    rw [Rm.floor_eq hx.ne]
    refine ⟨l, idat (a.fdiv b) (a.fdiv b), rfl, .lst (SqL.of upd_same) (.cons (.int _) (.cons (.int _) .nil)), i1, i2, i3, id_len sl sl, ?_⟩
    refine ⟨_, rfl, _, rfl, by show 2 ≤ sizeLine; decide, fun m hm => ?_⟩
    refine ⟨m, idat (a.fdiv b) (a.fdiv b), rfl, .lst (SqL.of upd_same) (.cons (.int _) (.cons (.int _) .nil)), i1, i2, i3, id_len sl sl, rfl, _, rfl, ?_⟩
    rw [decide_eq_true rfl]
    refine iteF ?_
    have s1 := fun o => (same_new hl).trans (same_new (o := o) hm)
    refine ⟨_, rfl, _, _, rfl, rfl, _, rfl, _, rfl, _, _, rfl, rfl, by show 4 ≤ sizeLine; decide, fun n hn => ?_⟩
    have s2 := fun o' => (s1 _).trans (same_new (o := o') hn)
    refine ⟨n, rfl, ⟨_, SqL.of upd_same⟩, for_list (K := K) (a := n) (xs := [.int (a.fdiv b - 1), .int (a.fdiv b), .int (a.fdiv b + 1), .int 0])
      (fun i σ H' => ∃ v o, σ = [some (.ref x), some (.ref p), some (.int (a.fdiv b)), v, o] ∧ Same H H' ∧ H' n = some (.lst [.int (a.fdiv b - 1), .int (a.fdiv b), .int (a.fdiv b + 1), .int 0]))
      ⟨_, _, rfl, s2 _, upd_same⟩ (fun i σ H' _ ⟨_, _, _, _, e⟩ => SqL.of e) ?_ ?_⟩
    · rintro i y σ H' hi ⟨v, o, rfl, sm, en⟩
      obtain ⟨z, rfl, hz⟩ : ∃ z : Int, y = .int z ∧ Sz z := by
        have h1 := sl
        have big : ∀ k : Int, k.natAbs ≤ a.natAbs + 1 → Sz k := fun k hk => by
          have h2 := hx.su
          have h3 : (2 : Nat) ^ 200 < 2 ^ 1000 := Nat.pow_lt_pow_right (by decide) (by decide)
          show k.natAbs < 2 ^ 1000
          generalize (2 : Nat) ^ 1000 = g at *
          have h2' : a.natAbs < 2 ^ 200 := h2
          omega
        have h4 := fdiv_le (u := a) hx.ne
        have hm := List.mem_of_getElem? hi
        simp only [List.mem_cons, List.not_mem_nil, or_false] at hm
        rcases hm with rfl | rfl | rfl | rfl
        · exact ⟨_, rfl, big _ (by omega)⟩
        · exact ⟨_, rfl, big _ (by omega)⟩
        · exact ⟨_, rfl, big _ (by omega)⟩
        · exact ⟨_, rfl, big _ (by omega)⟩
      have hx1 := hx.same sm
      have ex1 := sm _ _ ex
      -- order
      refine ⟨_, rfl, _, rfl, by show 2 ≤ sizeLine; decide, fun r hr' => ?_⟩
      have s3 := fun o => sm.trans (same_new (o := o) hr')
      refine ⟨p, r, a, b, z, 1, rfl, s3 _ _ _ ep, upd_same, hx.su.sz, hx.sl.sz, hz, Sz.one, ?_⟩
      have f1 : decide (Rm.rt a b * 1 < z * Rm.rb a b) = decide (Rm.ord a b z 1 < 0) := by
        have h := Rm.ord_lt (a := a) (c := z) hx.ne (by decide : (1 : Int) ≠ 0)
        rw [Rm.rb_one, Rm.rt_one] at h
        exact decide_eq_decide.mpr h.symm
      refine ⟨_, rfl, x, dx, _, rfl, s3 _ _ _ ex, rfl, _, rfl, x, dx, _, _, _, _, _, rfl, s3 _ _ _ ex, .int z, hx.st, hx.sb, hz, Sz.one, fun H4 s4 => ?_⟩
      have s5 := (s3 _).trans s4
      refine ⟨_, rfl, x, dx, _, rfl, s5 _ _ ex, rfl, _, rfl, rfl, x, dx, _, _, _, _, _, rfl, s5 _ _ ex, .int z, hx.st, hx.sb, hz, Sz.one, fun H5 s6 => ?_⟩
      have s7 := s5.trans s6
      have en7 : H5 n = some (.lst [.int (a.fdiv b - 1), .int (a.fdiv b), .int (a.fdiv b + 1), .int 0]) := s6 _ _ (s4 _ _ (same_new hr' _ _ en))
      rw [f1]
      obtain ⟨d1, d2, d3, d4⟩ := bd2 (decide (Rm.ord a b z 1 < 0)) (decide (Rm.ord a b z 1 < 0))
      refine ⟨by show 2 ≤ sizeLine; decide, fun l2 hl2 => ?_⟩
      refine ⟨l2, _, rfl, .lst (SqL.of upd_same) (dp_bools [_, _]), d1, d2, d3, d4, ?_⟩
      refine ⟨_, rfl, _, _, rfl, rfl, _, rfl, _, _, rfl, rfl, by show 2 ≤ sizeLine; decide, fun m2 hm2 => ?_⟩
      refine ⟨m2, _, rfl, .lst (SqL.of upd_same) (dp_bools [_, _]), d1, d2, d3, d4, rfl, _, rfl, ?_⟩
      rw [decide_eq_true rfl]
      refine iteF ?_
      have s8 := fun o => (same_new hl2).trans (same_new (o := o) hm2)
      have s9 := fun o => s7.trans (s8 o)
      -- one == n or not one != n or Ratio(n) == n
      refine ⟨_, rfl, _, rfl, ?_⟩
      show rEqO K C (sp_eq K C) (.ref x) (.int z) _ _
      refine eqI R (s9 _ _ _ ex) ⟨_, rfl, iteF ?_⟩
      refine ⟨_, rfl, _, rfl, ?_⟩
      show rNeO K C (sp_eq K C) (.ref x) (.int z) _ _
      refine neI R (s9 _ _ _ ex) ⟨_, rfl, iteF ?_⟩
      refine ⟨_, rfl, fun x2 dx2 hx2 hdx2 ne2 => ⟨x2, dx2, z, 1, rfl, upd_same, by decide, Nat.one_lt_two_pow (by decide), rfl, _, rfl, ?_⟩⟩
      rw [upd_upd]
      show rEqO K C (sp_eq K C) (.ref x2) (.int z) _ _
      refine eqI R upd_same ⟨_, rfl, iteF ?_⟩
      have s10 := fun o o' => ((same_new (o := o) hdx2).trans (same_new (o := o') (show upd _ dx2 o x2 = none by rw [upd_ne (Ne.symm ne2)]; exact hx2)))
      have s11 := fun o o' => (s9 _).trans (s10 o o')
      -- (one == Ratio(n)) != (order == 0)
      refine ⟨_, rfl, _, rfl, fun x3 dx3 hx3 hdx3 ne3 => ⟨x3, dx3, z, 1, rfl, upd_same, by decide, Nat.one_lt_two_pow (by decide), rfl, ?_⟩⟩
      rw [upd_upd]
      have s12 := fun o o' => ((same_new (o := o) hdx3).trans (same_new (o := o') (show upd _ dx3 o x3 = none by rw [upd_ne (Ne.symm ne3)]; exact hx3)))
      have s13 := fun o o' => (s11 _ _).trans (s12 o o')
      show rEqO K C (sp_eq K C) (.ref x) (.ref x3) _ _
      refine eqR R (s13 _ _ _ _ ex) upd_same ?_
      refine ⟨_, rfl, rfl, rfl, _, rfl, ?_⟩
      have f0 : decide (V.int (Rm.ord a b z 1) = V.int 0) = decide (Rm.ord a b z 1 = 0) := decide_eq_decide.mpr ⟨fun z => V.int.inj z, fun z => by rw [z]⟩
      have f3 : decide (Rm.rt a b = Rm.rt z 1 ∧ Rm.rb a b = Rm.rb z 1) = decide (V.int (Rm.ord a b z 1) = V.int 0) := by
        rw [f0]; exact decide_eq_decide.mpr (Rm.ord_eq hx.ne (by decide)).symm
      rw [f3, decide_eq_true rfl]
      refine iteF ?_
      exact ⟨_, _, rfl, s13 _ _, (s12 _ _) _ _ ((s10 _ _) _ _ ((s8 _) _ _ en7))⟩
    · rintro σ H' ⟨v, o, rfl, sm, en⟩
      exact q _ sm
end
end T
set_option Elab.async false
set_option maxRecDepth 100000
set_option maxHeartbeats 4000000
namespace T
open PySem L2 Mv TL
abbrev s_wt : Stmt := top 11
theorem sc_wt : FnScope ["word", "digits", "sign"] ["word"] (defScope s_wt) := ⟨rfl, rfl, rfl, by decide +kernel, rfl, by decide +kernel, by decide +kernel⟩
abbrev s_rin : Stmt := top 12
theorem sc_rin : FnScope ["text", "words", "word", "bottom", "found"] ["text"] (defScope s_rin) := ⟨rfl, rfl, rfl, by decide +kernel, rfl, by decide +kernel, by decide +kernel⟩
abbrev s_read : Stmt := inClass (top 14) 1
theorem sc_read : FnScope ["text", "found"] ["text"] (defScope s_read) := ⟨rfl, rfl, rfl, by decide +kernel, rfl, by decide +kernel, by decide +kernel⟩
/-! texts of numbers -/
theorem tl_pos {i : Int} (h : 0 ≤ i) : tl (num i) = numL i.natAbs := by
  obtain ⟨n, rfl⟩ := Int.eq_ofNat_of_zero_le h
  exact tl_num n
theorem tl_neg {i : Int} (h : i < 0) : tl (num i) = 45 :: numL i.natAbs := by
  have e : num i = Str.ofString "-" ++ num (0 - i) := by
    show Str.ofString (toString i) = _
    rw [PyProof.Rows.toString_neg h]
    refine ext_tl ?_
    rw [tl_append]
    show tl (Str.ofString _) = tl (Str.ofString "-") ++ tl (Str.ofString (toString (0 - i)))
    rw [tl_ofString, tl_ofString, tl_ofString, String.toList_append, List.map_append]
  rw [e, tl_append, tl_pos (by omega : 0 ≤ 0 - i)]
  have e2 : (0 - i).natAbs = i.natAbs := by omega
  rw [e2]
  rfl
theorem num_len2 {i : Int} (h : S2 i) : (num i).length ≤ 62 := by
  have := PySem.int_text_length_le10 (a := i) (k := 61) (by decide) (Nat.lt_of_lt_of_le h (by decide +kernel))
  show (Str.ofString (toString i)).length ≤ 62
  rw [PyProof.Rows.ofString_len]
  exact this
theorem int_back {i : Int} (h : S2 i) : intText? (num i) = some i := by
  have hl := num_len2 h
  by_cases h0 : 0 ≤ i
  · have e : (num i).cps.toList = numL i.natAbs := tl_pos h0
    have r := intText_digits (x := num i) (by rw [e]; exact numL_digits _) (by rw [e]; exact numL_ne _) (by omega)
    rw [e, numL_val] at r
    rw [r]
    exact congrArg some (by omega)
  · have e : (num i).cps.toList = 45 :: numL i.natAbs := tl_neg (by omega)
    have r := intText_neg (x := num i) e (numL_digits _) (numL_ne _) (by omega)
    rw [numL_val] at r
    rw [r]
    exact congrArg some (by omega)
theorem no_bar (i : Int) : (47 : Nat) ∉ tl (num i) := by
  by_cases h0 : 0 ≤ i
  · rw [tl_pos h0]; exact numL_free (by omega)
  · rw [tl_neg (by omega)]
    intro h
    rcases List.mem_cons.mp h with e | e
    · exact absurd e (by decide)
    · exact numL_free (by omega) e
theorem tl_bar : tl ("/" : Str) = [47] := by rfl
theorem split1 (t : Int) : Txt.split (num t) "/" = [num t] := by
  have e := split_join (y := ("/" : Str)) tl_bar (by decide +kernel) (parts := [num t]) (by simp) (by intro p hp; rw [List.mem_singleton.mp hp]; exact no_bar t)
  have j : Txt.join ("/" : Str) [num t] = num t := by rw [join_eq]; rfl
  rw [j] at e
  exact e
theorem split2 (t b : Int) : Txt.split (Str.empty ++ num t ++ "/" ++ num b) "/" = [num t, num b] := by
  have e := split_join (y := ("/" : Str)) tl_bar (by decide +kernel) (parts := [num t, num b]) (by simp) (by
    intro p hp
    simp only [List.mem_cons, List.not_mem_nil, or_false] at hp
    rcases hp with rfl | rfl <;> exact no_bar _)
  have j : Txt.join ("/" : Str) [num t, num b] = Str.empty ++ num t ++ "/" ++ num b := by
    refine ext_tl ?_
    rw [join_eq, tl_join, tl_append, tl_append, tl_append]
    simp [joinL, tl]
    rfl
  rw [j] at e
  exact e
theorem sIx1 (n : Nat) (d : Nat) : HT.sIx n d (some 1) = min 1 n := HT.sIx_nat n d 1
theorem cut_head (z : Str) : tl (cutS z none (some 1)) = (tl z).take 1 := by
  show ((z.cps.toList.drop (HT.sIx z.length 0 none)).take (HT.sIx z.length z.length (some 1) - HT.sIx z.length 0 none)).toArray.toList = z.cps.toList.take 1
  rw [HT.sIx_none, sIx1]
  have e : z.length = z.cps.toList.length := len_tl z
  generalize z.cps.toList = l at *
  rw [e]
  cases l with
  | nil => rfl
  | cons a r => simp
theorem cut_tail (z : Str) : tl (cutS z (some 1) none) = (tl z).drop 1 := by
  show ((z.cps.toList.drop (HT.sIx z.length 0 (some 1))).take (HT.sIx z.length z.length none - HT.sIx z.length 0 (some 1))).toArray.toList = z.cps.toList.drop 1
  rw [HT.sIx_none, sIx1]
  have e : z.length = z.cps.toList.length := len_tl z
  generalize z.cps.toList = l at *
  rw [e]
  cases l with
  | nil => rfl
  | cons a r => simp
section
variable {P : Program} {w : World} {K : PySem.W.Frag} {mg : Str → Option Value} {base : Heap} {C : Addr}
def sp_wt : Sp := fun vs H Q _ => ∃ i : Int, vs = [.str (num i)] ∧ S2 i ∧ ∀ H', Same H H' → Q (.bl true) H'
theorem Same.new {H : Hp} {p : Addr} {o : HO} (h : H p = none) : Same H (upd H p o) := same_new h
/-- all signs of l are figures -/
theorem dig_in {c : Nat} (h : 48 ≤ c ∧ c ≤ 57) : c ∈ tl ("0123456789" : Str) := by
  have e : tl ("0123456789" : Str) = [48, 49, 50, 51, 52, 53, 54, 55, 56, 57] := by decide +kernel
  rw [e]
  simp
  omega
theorem ok_wt {f : Addr} {fd : FuncData} (F : Df K "is_whole_text" "is_whole_text" s_wt [] f fd) (B : Blt mg) (mD : ∃ t, mg "DIGITS" = some (.str "0123456789" t)) : FnOk P w K mg base CX0 1 f fd ["word"] sp_wt := by
  obtain ⟨tD, mD⟩ := mD
  refine dfOk F sc_wt (fun vs H Q E h => ?_) (fun cdv A outer s H vs Q E hr h => ?_)
  · obtain ⟨i, rfl, _⟩ := h
    rfl
  · obtain ⟨i, rfl, si, q⟩ := h
    refine ⟨_, (pss_cons (ps_set (i := 1) sc_wt.nd rfl (Or.inl rfl) (pe_ifExp (pt_cmpR op_eq (pe_slice sl_str (pv 0) po_none (po_some pe_int)) pe_str (nomark _)) (pe_slice sl_str (pv 0) (po_some pe_int) po_none) (pv 0)))
  (pss_one (ps_ret (pe_and (pe_cmpR op_ne (pv 1) pe_str (nomark _)) (pe_one (pe_callB (cr_all rfl) (by rfl) B.all bt_all (pa_cons (pe_lc (own := [("sign", 2)]) (by rfl) sc_wt.nd (pi_str (pv 1)) (blkOk_by (own := [("sign", 2)]) (N := ["word", "digits", "sign"]) (sc := defScope s_wt) (by decide +kernel)) (fun _ _ _ _ _ => (pg_name (i := 2) sc_wt.nd rfl (Or.inl rfl))) (fun _ _ _ _ _ => pts_nil) (fun _ _ _ _ _ => (pe_cmpR op_in_sign (pv 2) (pe_glob (v := .str "0123456789") (by rfl) mD ⟨_, rfl⟩) (by rfl)))) pa_nil))))))), ?_⟩
    have l0 := num_len2 si
    have lz : (num i).length ≤ sizeLine := by unfold sizeLine; omega
    refine ⟨_, rfl, _, rfl, _, rfl, lz, rfl, _, rfl, ?_⟩
    refine ite2 (fun h => ?_) (fun h => ?_)
    · have e := of_decide_eq_true h
      have e1 : cutS (num i) none (some 1) = "-" := V.str.inj e
      have hi : i < 0 := by
        by_cases h0 : 0 ≤ i
        · exfalso
          have e2 := cut_head (num i)
          rw [e1, tl_pos h0] at e2
          have e3 : tl ("-" : Str) = [45] := by decide +kernel
          rw [e3] at e2
          have : (45 : Nat) ∈ numL i.natAbs := List.mem_of_mem_take (i := 1) (by rw [← e2]; simp)
          exact numL_free (by omega) this
        · omega
      refine ⟨_, rfl, _, rfl, _, rfl, lz, ?_⟩
      obtain ⟨z, hz, hl⟩ : ∃ z, cutS (num i) (some 1) none = z ∧ (tl z = numL i.natAbs ∧ z.length ≤ 62) := by
        refine ⟨_, rfl, ?_, Nat.le_trans (cutS_length _ _ _) l0⟩
        rw [cut_tail, tl_neg hi]
        rfl
      rw [hz]
      have hne : z ≠ "" := fun e => numL_ne i.natAbs (by rw [← hl.1, e]; decide +kernel)
      refine ⟨_, rfl, rfl, _, rfl, ?_⟩
      rw [decide_eq_false (fun e => hne (V.str.inj e))]
      refine iteT ?_
      refine ⟨_, rfl, _, rfl, fun D hD => lc_it walk_str (fun j H' => Same H H' ∧ H' D = some (.lst (List.replicate j (V.bl true)))) ⟨same_new hD, upd_same⟩ (fun _ _ _ _ => trivial) ?_ ?_⟩
      · rintro j x H1 H2 hj ⟨sm, ed⟩ ⟨rfl, c, hc, rfl⟩
        have hm : c ∈ numL i.natAbs := by
          rw [← hl.1]
          show c ∈ z.cps.toList
          exact List.mem_of_getElem? (by simpa using hc)
        refine ⟨rfl, _, rfl, c, _, rfl, rfl, _, ed, ?_, ?_, ?_⟩
        · simp; unfold sizeLine
          have : z.cps.size = z.length := rfl
          omega
        · intro b o e
          rw [upd_ne (ne_of_none e hD)]
          exact sm _ _ e
        · rw [upd_same]
          have : decide (c ∈ ("0123456789" : Str).cps.toList) = true := decide_eq_true (dig_in (numL_digits _ _ hm))
          rw [this]
          simp [List.replicate_succ']
      · rintro H1 ⟨sm, ed⟩
        refine ⟨D, List.replicate z.cps.size true, rfl, SqL.of (by rw [List.map_replicate]; exact ed), ?_⟩
        have : (List.replicate z.cps.size true).all id = true := by simp
        rw [this]
        exact q _ sm
    · have hi : 0 ≤ i := by
        by_cases h0 : 0 ≤ i
        · exact h0
        · exfalso
          apply h
          refine decide_eq_true (congrArg V.str (ext_tl ?_))
          rw [cut_head, tl_neg (by omega)]
          show [45] = tl ("-" : Str)
          decide +kernel
      refine ⟨_, rfl, ?_⟩
      obtain ⟨z, hz, hl⟩ : ∃ z, num i = z ∧ (tl z = numL i.natAbs ∧ z.length ≤ 62) := ⟨_, rfl, tl_pos hi, l0⟩
      rw [hz]
      have hne : z ≠ "" := fun e => numL_ne i.natAbs (by rw [← hl.1, e]; decide +kernel)
      refine ⟨_, rfl, rfl, _, rfl, ?_⟩
      rw [decide_eq_false (fun e => hne (V.str.inj e))]
      refine iteT ?_
      refine ⟨_, rfl, _, rfl, fun D hD => lc_it walk_str (fun j H' => Same H H' ∧ H' D = some (.lst (List.replicate j (V.bl true)))) ⟨same_new hD, upd_same⟩ (fun _ _ _ _ => trivial) ?_ ?_⟩
      · rintro j x H1 H2 hj ⟨sm, ed⟩ ⟨rfl, c, hc, rfl⟩
        have hm : c ∈ numL i.natAbs := by
          rw [← hl.1]
          show c ∈ z.cps.toList
          exact List.mem_of_getElem? (by simpa using hc)
        refine ⟨rfl, _, rfl, c, _, rfl, rfl, _, ed, ?_, ?_, ?_⟩
        · simp; unfold sizeLine
          have : z.cps.size = z.length := rfl
          omega
        · intro b o e
          rw [upd_ne (ne_of_none e hD)]
          exact sm _ _ e
        · rw [upd_same]
          have : decide (c ∈ ("0123456789" : Str).cps.toList) = true := decide_eq_true (dig_in (numL_digits _ _ hm))
          rw [this]
          simp [List.replicate_succ']
      · rintro H1 ⟨sm, ed⟩
        refine ⟨D, List.replicate z.cps.size true, rfl, SqL.of (by rw [List.map_replicate]; exact ed), ?_⟩
        have : (List.replicate z.cps.size true).all id = true := by simp
        rw [this]
        exact q _ sm
/-- the number read back -/
theorem rstr_len {t b : Int} (st : S2 t) (sb : S2 b) : (rstr t b).length ≤ 130 := by
  have l1 := num_len2 st
  have l2 := num_len2 sb
  unfold rstr
  split
  · omega
  · rw [app_len, app_len, app_len]
    have z1 : (Str.empty : Str).length = 0 := rfl
    have z2 : ("/" : Str).length = 1 := rfl
    omega
def sp_rin (C : Addr) : Sp := fun vs H Q _ => ∃ t b : Int, vs = [.str (rstr t b)] ∧ 0 < b ∧ Int.gcd t b = 1 ∧ S2 t ∧ S2 b ∧ ∀ (x dx : Addr) (H' : Hp), Same H H' → H' x = some (.ins C dx (flds t b)) → Q (.ref x) H'
/-- the words of the text -/
def wds (t b : Int) : List Int := if b = 1 then [t] else [t, b]
theorem split_wds (t b : Int) : Txt.split (rstr t b) "/" = (wds t b).map num := by
  unfold rstr wds
  split
  · exact split1 t
  · exact split2 t b
theorem wds_len (t b : Int) : 1 ≤ (wds t b).length ∧ (wds t b).length ≤ 2 := by
  unfold wds; split <;> simp
theorem ok_rin {f : Addr} {fd : FuncData} (F : Df K "ratio_in" "ratio_in" s_rin [] f fd) (B : Blt mg) (R : Rat K mg C) (cW : Ca P w K mg base 1 "is_whole_text" sp_wt []) (cR : Ma P w K mg base 2 "Ratio" C (sp_init C) []) (cStr : Op2 P w K mg base 1 C "__str__" (sp_txt C rstr)) :
    FnOk P w K mg base CX0 4 f fd ["text"] (sp_rin C) := by
  refine dfOk F sc_rin (fun vs H Q E h => ?_) (fun cdv A outer s H vs Q E hr h => ?_)
  · obtain ⟨t, b, rfl, _⟩ := h
    rfl
  · obtain ⟨t, b, rfl, hb, hg, st, sb, q⟩ := h
    have hr3 : Room 3 _ := hr
    refine ⟨_, (pss_cons (ps_set (i := 1) sc_rin.nd rfl (Or.inl rfl) (pe_ifExp (pt_val (pe_callB call_isi' (by rfl) B.isinstance bt_isinstance (pa_cons (pv 0) (pa_cons (pe_bltn (v := .ty "str") (by rfl) B.str bt_str rfl) pa_nil)))) (pe_split (pv 0) pe_str) (pe_lst pa_nil)))
  (pss_cons (ps_if (PW.pt (pw_or (pt_not (pt_chain op_le op_le pe_int (pe_callB call_len_seq (by rfl) B.len bt_len (pa_cons (pv 1) pa_nil)) pe_int)) (pw_or1 (pt_not (pt_val (pe_callB (cr_all rfl) (by rfl) B.all bt_all (pa_cons (pe_lc (own := [("word", 2)]) (by rfl) sc_rin.nd (pi_list (pv 1)) (blkOk_by (own := [("word", 2)]) (N := ["text", "words", "word", "bottom", "found"]) (sc := defScope s_rin) (by decide +kernel)) (fun _ _ _ _ _ => (pg_name (i := 2) sc_rin.nd rfl (Or.inl rfl))) (fun _ _ _ _ _ => pts_nil) (fun _ _ _ _ _ => (pe_ca cW hr (by decide) (by rfl) (pa_cons (pv 2) pa_nil)))) pa_nil)))))))
  (pss_one (ps_ret pe_non))
  pss_nil)
  (pss_cons (ps_set (i := 3) sc_rin.nd rfl (Or.inl rfl) (pe_ifExp (pt_cmpR op_eq (pe_callB call_len_seq (by rfl) B.len bt_len (pa_cons (pv 1) pa_nil)) pe_int (nomark _)) (pe_callTy call_int_str (by rfl) B.int bt_int (pa_cons (pe_ix ix_list (pv 1) pe_int (fun _ _ => rfl)) pa_nil)) pe_int))
  (pss_cons (ps_if (pt_cmpR op_eq (pv 3) pe_int (nomark _))
  (pss_one (ps_ret pe_non))
  pss_nil)
  (pss_cons (ps_set (i := 4) sc_rin.nd rfl (Or.inl rfl) (pe_ma cR hr (by decide) (by rfl) (pa_cons (pe_callTy call_int_str (by rfl) B.int bt_int (pa_cons (pe_ix ix_list (pv 1) pe_int (fun _ _ => rfl)) pa_nil)) (pa_cons (pv 3) pa_nil))))
  (pss_one (ps_ret (pe_ifExp (pt_cmpR op_eq (pe_callTy (call_strO' cStr hr (by decide)) (by rfl) B.str bt_str (pa_cons (pv 4) pa_nil)) (pv 0) (nomark _)) (pv 4) pe_non)))))))), ?_⟩
    have l0 := rstr_len st sb
    refine ⟨_, rfl, _, _, .type "str", _, true, rfl, .ty _, .base (.str _), kit_ty (by decide +kernel), _, rfl, iteT ?_⟩
    refine ⟨_, rfl, ⟨_, rfl⟩, _, _, rfl, rfl, rfl, by unfold sizeLine; omega, fun p hp => ?_⟩
    rw [split_wds]
    have hw := wds_len t b
    have hlen : ((((wds t b).map num).map V.str).length : Int) = ((wds t b).length : Int) := by simp
    refine ⟨_, rfl, p, _, rfl, .inl (SqL.of upd_same), _, _, rfl, rfl, _, rfl, ?_⟩
    rw [decide_eq_true (show (1 : Int) ≤ _ by rw [hlen]; omega)]
    refine iteT ?_
    refine ⟨_, _, rfl, rfl, _, rfl, ?_⟩
    rw [decide_eq_true (show _ ≤ (2 : Int) by rw [hlen]; omega)]
    refine iteF ?_
    -- all([is_whole_text(word) for word in words])
    have hS2 : ∀ i ∈ wds t b, S2 i := by
      intro i hi
      unfold wds at hi
      split at hi
      · rw [List.mem_singleton.mp hi]; exact st
      · simp only [List.mem_cons, List.not_mem_nil, or_false] at hi
        rcases hi with rfl | rfl
        · exact st
        · exact sb
    refine ⟨_, rfl, p, rfl, ⟨_, SqL.of upd_same⟩, fun D hD => lc_list (K := K) (a := p) (xs := ((wds t b).map num).map V.str)
      (fun j H' => Same H H' ∧ H' p = some (.lst (((wds t b).map num).map V.str)) ∧ H' D = some (.lst (List.replicate j (V.bl true)))) ⟨(same_new hp).trans (same_new hD), by rw [upd_ne (ne_of_none upd_same hD)]; exact upd_same, upd_same⟩ (fun j H' _ ⟨_, e, _⟩ => SqL.of e) ?_ ?_⟩
    · rintro j x H1 hj ⟨sm, ep, ed⟩
      have hmem := List.mem_of_getElem? hj
      rw [List.map_map] at hmem
      obtain ⟨i, hi, rfl⟩ := List.mem_map.mp hmem
      have hjl : j < 2 := by
        have := (List.getElem?_eq_some_iff.mp hj).1
        simp at this; omega
      refine ⟨rfl, _, rfl, i, rfl, hS2 i hi, fun H2 s2 => ⟨_, s2 _ _ ed, ?_, ?_, ?_, ?_⟩⟩
      · simp; unfold sizeLine; omega
      · intro c o e
        by_cases hc : c = D
        · subst hc
          have : upd H p (.lst (((wds t b).map num).map V.str)) c = none := hD
          rw [same_new hp _ _ e] at this; cases this
        · rw [upd_ne hc]; exact s2 _ _ (sm _ _ e)
      · have hpd : p ≠ D := ne_of_none upd_same hD
        rw [upd_ne hpd]; exact s2 _ _ ep
      · rw [upd_same]
        simp [List.replicate_succ']
    · rintro H1 ⟨sm, ep, ed⟩
      refine ⟨D, List.replicate (((wds t b).map num).map V.str).length true, rfl, SqL.of (by rw [List.map_replicate]; exact ed), ?_⟩
      have hall : (List.replicate (((wds t b).map num).map V.str).length true).all id = true := by simp
      rw [hall]
      refine ⟨_, rfl, ?_⟩
      refine iteF ?_
      refine ⟨_, rfl, p, _, rfl, .inl (SqL.of ep), rfl, _, rfl, ?_⟩
      have lg : ∀ {i : Int}, S2 i → (num i).length ≤ 640 := fun h => Nat.le_trans (num_len2 h) (by decide)
      have e0 : ∀ x : Int, x ≠ 0 → decide (V.int x = V.int 0) = false := fun x h => decide_eq_false (fun z => h (V.int.inj z))
      by_cases hb1 : b = 1
      · subst hb1
        have ew : wds t 1 = [t] := rfl
        rw [ew] at ep ⊢
        rw [decide_eq_false (by show ¬ (V.int 1 = V.int 2); intro z; cases z)]
        refine iteF ?_
        refine ⟨_, rfl, rfl, _, rfl, ?_⟩
        rw [e0 1 (by decide)]
        refine iteF ?_
        refine ⟨_, rfl, p, _, _, _, rfl, rfl, SqL.of ep, rfl, _, _, rfl, int_back st, lg st, _, rfl, fun x dx hx hdx hne => ⟨x, dx, t, 1, rfl, upd_same, by decide, Nat.one_lt_two_pow (by decide), rfl, ?_⟩⟩
        rw [upd_upd, Rm.rt_one, Rm.rb_one]
        have s2 := fun o o' => sm.trans ((same_new (o := o) hdx).trans (same_new (o := o') (show upd H1 dx o x = none by rw [upd_ne (Ne.symm hne)]; exact hx)))
        refine ⟨_, rfl, x, dx, _, rfl, upd_same, x, dx, t, 1, rfl, upd_same, st.sz, Sz.one, _, rfl, _, rfl, rfl, _, rfl, ?_⟩
        rw [decide_eq_true rfl]
        refine iteT ?_
        exact ⟨_, rfl, q x dx _ (s2 _ _) upd_same⟩
      · have ew : wds t b = [t, b] := by unfold wds; rw [if_neg hb1]
        rw [ew] at ep ⊢
        rw [decide_eq_true (by rfl)]
        refine iteT ?_
        refine ⟨_, rfl, p, _, _, _, rfl, rfl, SqL.of ep, rfl, _, _, rfl, int_back sb, lg sb, ?_⟩
        refine ⟨_, rfl, rfl, _, rfl, ?_⟩
        rw [e0 b (by omega)]
        refine iteF ?_
        refine ⟨_, rfl, p, _, _, _, rfl, rfl, SqL.of ep, rfl, _, _, rfl, int_back st, lg st, _, rfl, fun x dx hx hdx hne => ⟨x, dx, t, b, rfl, upd_same, by omega, sb.sz.wide, rfl, ?_⟩⟩
        rw [upd_upd, Rm.rt_self hb hg, Rm.rb_self hb hg]
        have s2 := fun o o' => sm.trans ((same_new (o := o) hdx).trans (same_new (o := o') (show upd H1 dx o x = none by rw [upd_ne (Ne.symm hne)]; exact hx)))
        refine ⟨_, rfl, x, dx, _, rfl, upd_same, x, dx, t, b, rfl, upd_same, st.sz, sb.sz, _, rfl, _, rfl, rfl, _, rfl, ?_⟩
        rw [decide_eq_true rfl]
        refine iteT ?_
        exact ⟨_, rfl, q x dx _ (s2 _ _) upd_same⟩
/-! Ratio.read -/
theorem ok_read {f : Addr} {fd : FuncData} (F : Df K "read" "Ratio.read" s_read [] f fd) (cRin : Ca P w K mg base 4 "ratio_in" (sp_rin C) []) : FnOk P w K mg base CX0 5 f fd ["text"] (sp_rin C) := by
  refine dfOk F sc_read (fun vs H Q E h => ?_) (fun cdv A outer s H vs Q E hr h => ?_)
  · obtain ⟨t, b, rfl, _⟩ := h
    rfl
  · obtain ⟨t, b, rfl, hb, hg, st, sb, q⟩ := h
    refine ⟨_, (pss_cons (ps_set (i := 1) sc_read.nd rfl (Or.inl rfl) (pe_ca cRin hr (by decide) (by rfl) (pa_cons (pv 0) pa_nil)))
  (pss_cons (ps_if (pt_cmpR op_isN (pv 1) pe_non (nomark _))
  pss_never
  pss_nil)
  (pss_one (ps_ret (pv 1))))), ?_⟩
    refine ⟨_, rfl, t, b, rfl, hb, hg, st, sb, fun x dx H1 sm ex => ?_⟩
    refine ⟨_, rfl, rfl, _, rfl, ?_⟩
    rw [decide_eq_false (by intro z; cases z)]
    refine iteF ?_
    exact ⟨_, rfl, q x dx H1 sm ex⟩
end
end T
set_option Elab.async false
set_option maxRecDepth 100000
set_option maxHeartbeats 4000000
namespace Mv
open PySem PySem.Spec PyProof.Rows L2
theorem same_new {H : Hp} {p : Addr} {o : HO} (h : H p = none) : Same H (upd H p o) := fun z u e => by rw [upd_ne (ne_of_none e h)]; exact e
/-- a new instance and its dict -/
theorem same_make {H : Hp} {x dx : Addr} {o o' : HO} (hx : H x = none) (hdx : H dx = none) (hne : dx ≠ x) : Same H (upd (upd H dx o) x o') :=
  (same_new hdx).trans (same_new (by rw [upd_ne (Ne.symm hne)]; exact hx))
/-- what a new object's writes leave: H' is H0 but for D -/
theorem same_over {H0 H : Hp} {D : Addr} {o : HO} (s : Same H0 H) (hD : H0 D = none) : Same H0 (upd H D o) := fun z u e => by
  rw [upd_ne (ne_of_none e hD)]; exact s _ _ e
/-- [e for x in xs] over a list that stands still, each item's value told by ys; the items may lay new objects, nothing old changes -/
theorem lc_map {K : PySem.W.Frag} {a : Addr} {xs : List V} {n : Nat} {te : TE} {vs : List Nat} {σ : L2.St} {H0 : Hp} {D : Addr} {Qd : Hp → Prop} (ys : List V) (hl : ys.length = xs.length) (hz : ys.length ≤ 100000) (hD : H0 D = none) (hS : SqL K H0 a xs)
    (hw : ∀ x, wipe ((wipe σ vs).set n (some x)) vs = wipe σ vs)
    (hs : ∀ (i : Nat) (x : V) (H : Hp) (Q : VK), xs[i]? = some x → Same H0 H → (∀ y H4, ys[i]? = some y → Same H H4 → Q y H4) → te ((wipe σ vs).set n (some x)) H Q)
    (hd : ∀ H, Same H0 H → H D = some (.lst ys) → Qd H) :
    ∃ W : Nat → Nat → Hp → Prop, (∃ m, W 0 m (upd H0 D (.lst []))) ∧ ∀ i m H, W i m H →
      ((Itl K a).stop i H ∧ Qd H) ∨ ((Itl K a).go i H ∧ ∃ Nx : Hp → Prop, (∀ H', Nx H' → ∃ m', m' < m ∧ W (i + 1) m' H') ∧ ∀ x H', (Itl K a).yld i H x H' → gName n x (wipe σ vs) H' fun σ2 H2 => wipe σ2 vs = wipe σ vs ∧ tYes σ2 H2 fun b H3 =>
        if b = true then te σ2 H3 fun y H4 => ∃ acc, H4 D = some (.lst acc) ∧ acc.length < sizeLine ∧ Nx (upd H4 D (.lst (acc ++ [y]))) else Nx H3) := by
  refine lc_list (K := K) (a := a) (xs := xs) (fun j H' => Same H0 H' ∧ H' D = some (.lst (ys.take j))) ⟨same_new hD, by rw [upd_same]; simp⟩ (fun j H' _ ⟨s, _⟩ => s.seq hS) ?_ ?_
  · rintro i x H hi ⟨sm, ed⟩
    refine ⟨hw x, hs i x H _ hi sm fun y H4 hy s4 => ⟨_, s4 _ _ ed, ?_, same_over (sm.trans s4) hD, ?_⟩⟩
    · have := (List.getElem?_eq_some_iff.mp hy).1
      rw [List.length_take]; unfold sizeLine; omega
    · rw [upd_same, List.take_add_one, hy]
      rfl
  · rintro H ⟨sm, ed⟩
    exact hd H sm (by rw [ed, ← hl, List.take_length])
/-- the same over range(n) -/
theorem lc_mapR {n : Nat} {k : Nat} {te : TE} {vs : List Nat} {σ : L2.St} {H0 : Hp} {D : Addr} {Qd : Hp → Prop} (ys : List V) (hl : ys.length = n) (hz : ys.length ≤ 100000) (hD : H0 D = none)
    (hw : ∀ x, wipe ((wipe σ vs).set k (some x)) vs = wipe σ vs)
    (hs : ∀ (i : Nat) (H : Hp) (Q : VK), i < n → Same H0 H → (∀ y H4, ys[i]? = some y → Same H H4 → Q y H4) → te ((wipe σ vs).set k (some (.int ((0 : Int) + i)))) H Q)
    (hd : ∀ H, Same H0 H → H D = some (.lst ys) → Qd H) :
    ∃ W : Nat → Nat → Hp → Prop, (∃ m, W 0 m (upd H0 D (.lst []))) ∧ ∀ i m H, W i m H →
      ((Itr 0 n).stop i H ∧ Qd H) ∨ ((Itr 0 n).go i H ∧ ∃ Nx : Hp → Prop, (∀ H', Nx H' → ∃ m', m' < m ∧ W (i + 1) m' H') ∧ ∀ x H', (Itr 0 n).yld i H x H' → gName k x (wipe σ vs) H' fun σ2 H2 => wipe σ2 vs = wipe σ vs ∧ tYes σ2 H2 fun b H3 =>
        if b = true then te σ2 H3 fun y H4 => ∃ acc, H4 D = some (.lst acc) ∧ acc.length < sizeLine ∧ Nx (upd H4 D (.lst (acc ++ [y]))) else Nx H3) := by
  refine lc_range (lo := 0) (n := n) (fun j H' => Same H0 H' ∧ H' D = some (.lst (ys.take j))) ⟨same_new hD, by rw [upd_same]; simp⟩ ?_ ?_
  · rintro i H hi ⟨sm, ed⟩
    refine ⟨hw _, hs i H _ hi sm fun y H4 hy s4 => ⟨_, s4 _ _ ed, ?_, same_over (sm.trans s4) hD, ?_⟩⟩
    · have := (List.getElem?_eq_some_iff.mp hy).1
      rw [List.length_take]; unfold sizeLine; omega
    · rw [upd_same, List.take_add_one, hy]
      rfl
  · rintro H ⟨sm, ed⟩
    exact hd H sm (by rw [ed, ← hl, List.take_length])
end Mv
set_option Elab.async false
set_option maxRecDepth 100000
set_option maxHeartbeats 4000000
namespace T
open PySem L2 Mv
abbrev s_rr : Stmt := top 25
theorem sc_rr : FnScope ["_law_one", "_law_letters", "_law_told", "_law_made", "_law_others", "_law_fellow"] ["_law_one"] (defScope s_rr) := ⟨rfl, rfl, rfl, by decide +kernel, rfl, by decide +kernel, by decide +kernel⟩
section
variable {P : Program} {w : World} {K : PySem.W.Frag} {mg : Str → Option Value} {base : Heap} {C : Addr}
/-- a value of another kind -/
inductive Al (H : Hp) : V → Prop
  | non : Al H .non
  | bl (b : Bool) : Al H (.bl b)
  | str (z : Str) : Al H (.str z)
  | lst {a : Addr} {xs : List V} (e : H a = some (.lst xs)) : Al H (.ref a)
  | tup {a : Addr} {xs : List V} (e : H a = some (.tup xs)) : Al H (.ref a)
  | dK {a : Addr} {kvs : List (Key × V)} (e : H a = some (.dK kvs)) : Al H (.ref a)
theorem Al.same {H H' : Hp} {v : V} (h : Al H v) (s : Same H H') : Al H' v := by
  cases h with
  | non => exact .non
  | bl b => exact .bl b
  | str z => exact .str z
  | lst e => exact .lst (s _ _ e)
  | tup e => exact .tup (s _ _ e)
  | dK e => exact .dK (s _ _ e)
theorem Al.ty (R : Rat K mg C) {H : Hp} {v : V} (h : Al H v) : ∃ ty, TyX K H v ty ∧ PySem.W.kitOne K ty (.ref C) = some false ∧ PySem.W.notFirst K C ty = true := by
  cases h with
  | non => exact ⟨_, .base .non, (R.oth "NoneType" (by simp)).1, (R.oth "NoneType" (by simp)).2⟩
  | bl b => exact ⟨_, .base (.bl b), (R.oth "bool" (by simp)).1, (R.oth "bool" (by simp)).2⟩
  | str z => exact ⟨_, .base (.str z), (R.oth "str" (by simp)).1, (R.oth "str" (by simp)).2⟩
  | lst e => exact ⟨_, .base (.lst e), (R.oth "list" (by simp)).1, (R.oth "list" (by simp)).2⟩
  | tup e => exact ⟨_, .base (.tup e), (R.oth "tuple" (by simp)).1, (R.oth "tuple" (by simp)).2⟩
  | dK e => exact ⟨_, .base (.dK e), (R.oth "dict" (by simp)).1, (R.oth "dict" (by simp)).2⟩
theorem eqA (R : Rat K mg C) {H : Hp} {x dx : Addr} {t b : Int} {v : V} {Q : VK} (ex : H x = some (.ins C dx (flds t b))) (h : Al H v) (q : Q (.bl false) H) : rEqO K C (sp_eq K C) (.ref x) v H Q := by
  obtain ⟨ty, h1, h2, h3⟩ := h.ty R
  exact ⟨x, dx, _, ty, rfl, ex, h1, h3, x, dx, _, _, _, rfl, ex, .inr ⟨ty, h1, h2, q⟩⟩
theorem neA (R : Rat K mg C) {H : Hp} {x dx : Addr} {t b : Int} {v : V} {Q : VK} (ex : H x = some (.ins C dx (flds t b))) (h : Al H v) (q : Q (.bl true) H) : rNeO K C (sp_eq K C) (.ref x) v H Q := by
  obtain ⟨ty, h1, h2, h3⟩ := h.ty R
  exact ⟨x, dx, _, ty, rfl, ex, h1, h3, x, dx, _, _, _, rfl, ex, .inr ⟨ty, h1, h2, _, rfl, q⟩⟩
def sp_rr (C : Addr) : Sp := fun vs H Q _ => ∃ (x : Addr) (a b : Int), vs = [.ref x] ∧ Frac C H x a b ∧ ∀ H', Same H H' → Q (.bl true) H'
theorem ok_rr {f : Addr} {fd : FuncData} (F : Df K "_law_read_right" "_law_read_right" s_rr [] f fd) (B : Blt mg) (R : Rat K mg C) (cRd : Sm P w K mg base 5 C "read" (sp_rin C)) (cRdk : SmK P w K mg base 5 C "read" (sp_rin C) ["text"] (fun vs zs => vs ++ zs))
    (cTop : Pr P w K mg base 1 C "top" (sp_get C fun t _ => t)) (cBot : Pr P w K mg base 1 C "bottom" (sp_get C fun _ b => b)) (cStr : Op2 P w K mg base 1 C "__str__" (sp_txt C rstr)) (cRepr : Op2 P w K mg base 1 C "__repr__" (sp_txt C rrepr)) (cEq : Op2 P w K mg base 1 C "__eq__" (sp_eq K C)) :
    FnOk P w K mg base CX0 6 f fd ["_law_one"] (sp_rr C) := by
  refine dfOk F sc_rr (fun vs H Q E h => ?_) (fun cdv A outer s H vs Q E hr h => ?_)
  · obtain ⟨x, a, b, rfl, _⟩ := h
    rfl
  · obtain ⟨x, a, b, rfl, hx, q⟩ := h
    have hr1 : Room 1 _ := hr.mono (by decide)
    have hr2 : Room 2 _ := hr.mono (by decide)
    have hr3 : Room 3 _ := hr.mono (by decide)
    refine ⟨_, (pss_cons (ps_set (i := 1) sc_rr.nd rfl (Or.inr rfl) (pe_callTy (call_strO' cStr hr (by decide)) (by rfl) B.str bt_str (pa_cons (pv 0) pa_nil)))
  (pss_cons (ps_set (i := 2) sc_rr.nd rfl (Or.inl rfl) (pe_lst (pa_cons (pe_sm cRd hr (by decide) (pe_glob (by rfl) R.mgC (v := .ref C) rfl) (pa_cons (pv 1) pa_nil)) (pa_cons (pe_smk cRdk hr (by decide) (pe_glob (by rfl) R.mgC (v := .ref C) rfl) (pk_cons (pv 1) pk_nil)) pa_nil))))
  (pss_cons (ps_if (pt_not (pt_val (pe_callB (cr_all rfl) (by rfl) B.all bt_all (pa_cons (pe_lc (own := [("_law_made", 3)]) (by rfl) sc_rr.nd (pi_list (pv 2)) (blkOk_by (own := [("_law_made", 3)]) (N := ["_law_one", "_law_letters", "_law_told", "_law_made", "_law_others", "_law_fellow"]) (sc := defScope s_rr) (by decide +kernel)) (fun _ _ _ _ _ => (pg_name (i := 3) sc_rr.nd rfl (Or.inl rfl))) (fun _ _ _ _ _ => pts_nil) (fun _ _ _ _ _ => (pe_and (pe_cmpR (op_eqO' cEq hr (by decide)) (pv 3) (pv 0) (nomark _)) (pe_and (pe_callB call_isi' (by rfl) B.isinstance bt_isinstance (pa_cons (pv 3) (pa_cons (pe_glob (by rfl) R.mgC (v := .ref C) rfl) pa_nil))) (pe_one (pe_cmpR op_eq (pe_callTy (call_strO' cStr hr (by decide)) (by rfl) B.str bt_str (pa_cons (pv 3) pa_nil)) (pv 1) (nomark _))))))) pa_nil))))
  (pss_one (ps_ret pe_bl))
  pss_nil)
  (pss_cons (ps_set (i := 4) sc_rr.nd rfl (Or.inl rfl) (pe_lst (pa_cons pe_non (pa_cons (pv 1) (pa_cons (pe_callB (call_reprO' cRepr hr (by decide)) (by rfl) B.repr bt_repr (pa_cons (pv 0) pa_nil)) (pa_cons (pe_tup (pa_cons (pe_pr cTop hr (by decide) (pv 0)) (pa_cons (pe_pr cBot hr (by decide) (pv 0)) pa_nil))) (pa_cons (pe_lst (pa_cons (pe_pr cTop hr (by decide) (pv 0)) (pa_cons (pe_pr cBot hr (by decide) (pv 0)) pa_nil))) (pa_cons pe_dnewK (pa_cons pe_bl (pa_cons pe_bl (pa_cons (pe_lst (pa_cons (pv 0) pa_nil)) (pa_cons (pe_tup (pa_cons (pv 0) pa_nil)) pa_nil))))))))))))
  (pss_one (ps_ret (pe_and (pe_not (pe_callB (cr_any rfl) (by rfl) B.any bt_any (pa_cons (pe_lc (own := [("_law_fellow", 5)]) (by rfl) sc_rr.nd (pi_list (pv 4)) (blkOk_by (own := [("_law_fellow", 5)]) (N := ["_law_one", "_law_letters", "_law_told", "_law_made", "_law_others", "_law_fellow"]) (sc := defScope s_rr) (by decide +kernel)) (fun _ _ _ _ _ => (pg_name (i := 5) sc_rr.nd rfl (Or.inl rfl))) (fun _ _ _ _ _ => pts_nil) (fun _ _ _ _ _ => (pe_cmpR (op_eqO' cEq hr (by decide)) (pv 0) (pv 5) (nomark _)))) pa_nil))) (pe_one (pe_callB (cr_all rfl) (by rfl) B.all bt_all (pa_cons (pe_lc (own := [("_law_fellow", 5)]) (by rfl) sc_rr.nd (pi_list (pv 4)) (blkOk_by (own := [("_law_fellow", 5)]) (N := ["_law_one", "_law_letters", "_law_told", "_law_made", "_law_others", "_law_fellow"]) (sc := defScope s_rr) (by decide +kernel)) (fun _ _ _ _ _ => (pg_name (i := 5) sc_rr.nd rfl (Or.inl rfl))) (fun _ _ _ _ _ => pts_nil) (fun _ _ _ _ _ => (pe_cmpR (op_neO' cEq hr (by decide) R.ne R.hm) (pv 0) (pv 5) (nomark _)))) pa_nil)))))))))), ?_⟩
    obtain ⟨dx, ex⟩ := id hx.ob
    have st := hx.st
    have sb := hx.sb
    have s2t : S2 (Rm.rt a b) := Nat.lt_of_le_of_lt (Rm.rt_le hx.ne) hx.su
    have s2b : S2 (Rm.rb a b) := Nat.lt_of_le_of_lt (Rm.rb_le hx.ne) hx.sl
    have hb : 0 < Rm.rb a b := Rm.rb_pos hx.ne
    have hg := Rm.coprime (t := a) hx.ne
    generalize Rm.rt a b = t at *
    generalize Rm.rb a b = d at *
    refine ⟨_, rfl, x, dx, _, rfl, ex, x, dx, t, d, rfl, ex, st, sb, _, rfl, ?_⟩
    refine ⟨rfl, _, rfl, t, d, rfl, hb, hg, s2t, s2b, fun x1 dx1 H1 s1 e1 => ?_⟩
    refine ⟨rfl, _, rfl, rfl, t, d, rfl, hb, hg, s2t, s2b, fun x2 dx2 H2 s2 e2 => ?_⟩
    refine ⟨by show 2 ≤ sizeLine; decide, fun l hl => ?_⟩
    have s3 := fun o => (s1.trans s2).trans (Mv.same_new (o := o) hl)
    -- all([..])
    refine ⟨_, rfl, l, rfl, ⟨_, SqL.of upd_same⟩, fun D hD => lc_list (K := K) (a := l) (xs := [.ref x1, .ref x2])
      (fun j H' => Same H2 H' ∧ H' l = some (.lst [.ref x1, .ref x2]) ∧ H' D = some (.lst (List.replicate j (V.bl true)))) ⟨(Mv.same_new hl).trans (Mv.same_new hD), by rw [upd_ne (ne_of_none upd_same hD)]; exact upd_same, upd_same⟩ (fun j H' _ ⟨_, e, _⟩ => SqL.of e) ?_ ?_⟩
    · rintro j y H3 hj ⟨sm, el, ed⟩
      have hjl : j < 2 := (List.getElem?_eq_some_iff.mp hj).1
      obtain ⟨z, dz, rfl, ez⟩ : ∃ z dz, y = .ref z ∧ H3 z = some (.ins C dz (flds t d)) := by
        have hm := List.mem_of_getElem? hj
        simp only [List.mem_cons, List.not_mem_nil, or_false] at hm
        rcases hm with rfl | rfl
        · exact ⟨x1, dx1, rfl, sm _ _ (s2 _ _ e1)⟩
        · exact ⟨x2, dx2, rfl, sm _ _ e2⟩
      have ex3 := sm _ _ (s2 _ _ (s1 _ _ ex))
      refine ⟨rfl, _, rfl, _, rfl, ?_⟩
      show rEqO K C (sp_eq K C) (.ref z) (.ref x) _ _
      refine eqR R ez ex3 ?_
      rw [decide_eq_true ⟨rfl, rfl⟩]
      refine ⟨_, rfl, iteT ?_⟩
      refine ⟨_, rfl, _, _, .ref C, .ref C, true, rfl, .own C, R.ty ez, R.me, _, rfl, iteT ?_⟩
      refine ⟨_, rfl, z, dz, _, rfl, ez, z, dz, t, d, rfl, ez, st, sb, _, rfl, _, rfl, rfl, _, ed, ?_, ?_, ?_, ?_⟩
      · simp; unfold sizeLine; omega
      · intro c o e
        by_cases hc : c = D
        · subst hc
          have h0 : upd H2 l (.lst [.ref x1, .ref x2]) c = none := hD
          rw [Mv.same_new hl _ _ e] at h0; cases h0
        · rw [upd_ne hc]; exact sm _ _ e
      · rw [upd_ne (ne_of_none upd_same hD)]; exact el
      · rw [upd_same, decide_eq_true rfl]
        simp [List.replicate_succ']
    rintro H3 ⟨sm, el, ed⟩
    refine ⟨D, [true, true], rfl, SqL.of ed, ⟨_, rfl, ?_⟩⟩
    refine iteF ?_
    have s4 : Same H H3 := s1.trans (s2.trans sm)
    have ex4 := s4 _ _ ex
    -- others
    refine ⟨_, rfl, _, rfl, x, dx, _, rfl, ex4, x, dx, t, d, rfl, ex4, st, sb, _, rfl, ?_⟩
    refine ⟨_, rfl, x, dx, _, rfl, ex4, x, dx, t, d, rfl, ex4, _, rfl, x, dx, _, rfl, ex4, x, dx, t, d, rfl, ex4, by show 2 ≤ sizeLine; decide, fun p1 h1 => ?_⟩
    have t1 := fun o => Mv.same_new (o := o) h1
    have ex5 := fun o => t1 o _ _ ex4
    refine ⟨_, rfl, x, dx, _, rfl, ex5 _, x, dx, t, d, rfl, ex5 _, _, rfl, x, dx, _, rfl, ex5 _, x, dx, t, d, rfl, ex5 _, by show 2 ≤ sizeLine; decide, fun p2 h2 => ?_⟩
    have t2 := fun o => (t1 _).trans (Mv.same_new (o := o) h2)
    refine fun p3 h3 => ?_
    have t3 := fun o => (t2 _).trans (Mv.same_new (o := o) h3)
    refine ⟨_, rfl, by show 1 ≤ sizeLine; decide, fun p4 h4 => ?_⟩
    have t4 := fun o => (t3 _).trans (Mv.same_new (o := o) h4)
    refine ⟨_, rfl, by show 1 ≤ sizeLine; decide, fun p5 h5 => ?_⟩
    have t5 := fun o => (t4 _).trans (Mv.same_new (o := o) h5)
    refine ⟨by show 10 ≤ sizeLine; decide, fun p6 h6 => ?_⟩
    have t6 := fun o => (t5 _).trans (Mv.same_new (o := o) h6)
    have u6 := fun o => Mv.same_new (o := o) h6
    have u5 := fun o => (Mv.same_new h5).trans (u6 o)
    have u4 := fun o => (Mv.same_new h4).trans (u5 o)
    have u3 := fun o => (Mv.same_new h3).trans (u4 o)
    have u2 := fun o => (Mv.same_new h2).trans (u3 o)
    obtain ⟨vs, ev⟩ : ∃ vs : List V, vs = [.non, .str (rstr t d), .str (rrepr t d), .ref p1, .ref p2, .ref p3, .bl true, .bl false, .ref p4, .ref p5] := ⟨_, rfl⟩
    have hal := fun (o : HO) (v : V) (hv : v ∈ vs) => show Al _ v by
      rw [ev] at hv
      simp only [List.mem_cons, List.not_mem_nil, or_false] at hv
      rcases hv with rfl | rfl | rfl | rfl | rfl | rfl | rfl | rfl | rfl | rfl
      · exact .non
      · exact .str _
      · exact .str _
      · exact .tup (u2 o _ _ upd_same)
      · exact .lst (u3 o _ _ upd_same)
      · exact .dK (u4 o _ _ upd_same)
      · exact .bl _
      · exact .bl _
      · exact .lst (u5 o _ _ upd_same)
      · exact .tup (u6 o _ _ upd_same)
    have hlen : vs.length = 10 := by rw [ev]; rfl
    rw [← ev]
    have S6 := s4.trans (t6 (.lst vs))
    have A6 := hal (.lst vs)
    have X6 := S6 _ _ ex
    -- any([one == fellow ..])
    refine ⟨_, rfl, p6, rfl, ⟨_, SqL.of upd_same⟩, fun D2 hD2 => ?_⟩
    refine lc_map (K := K) (a := p6) (xs := vs) (List.replicate vs.length (.bl false)) (by simp) (by simp; omega) hD2 (SqL.of upd_same) (fun _ => rfl) ?_ ?_
    · intro j y H5 Q5 hj sm5 q5
      have hjl := (List.getElem?_eq_some_iff.mp hj).1
      have ym := List.mem_of_getElem? hj
      refine ⟨_, rfl, _, rfl, ?_⟩
      show rEqO K C (sp_eq K C) (.ref x) y _ _
      refine eqA R (sm5 _ _ X6) ((A6 y ym).same sm5) ?_
      exact q5 _ _ (by rw [List.getElem?_replicate, if_pos hjl]) (Same.refl _)
    intro H5 sm5 ed5
    refine ⟨D2, List.replicate vs.length false, rfl, SqL.of (by rw [List.map_replicate]; exact ed5), ?_⟩
    have hany : (List.replicate vs.length false).any id = false := by simp
    rw [hany]
    refine ⟨_, rfl, _, rfl, iteT ?_⟩
    -- all([one != fellow ..])
    have e5 := sm5 _ _ (upd_same (H := _) (a := p6) (o := .lst vs))
    refine ⟨_, rfl, p6, rfl, ⟨_, SqL.of e5⟩, fun D3 hD3 => ?_⟩
    refine lc_map (K := K) (a := p6) (xs := vs) (List.replicate vs.length (.bl true)) (by simp) (by simp; omega) hD3 (SqL.of e5) (fun _ => rfl) ?_ ?_
    · intro j y H7 Q7 hj sm7 q7
      have hjl := (List.getElem?_eq_some_iff.mp hj).1
      have ym := List.mem_of_getElem? hj
      refine ⟨_, rfl, _, rfl, ?_⟩
      show rNeO K C (sp_eq K C) (.ref x) y _ _
      refine neA R (sm7 _ _ (sm5 _ _ X6)) ((A6 y ym).same (sm5.trans sm7)) ?_
      exact q7 _ _ (by rw [List.getElem?_replicate, if_pos hjl]) (Same.refl _)
    intro H7 sm7 ed7
    refine ⟨D3, List.replicate vs.length true, rfl, SqL.of (by rw [List.map_replicate]; exact ed7), ?_⟩
    have hall : (List.replicate vs.length true).all id = true := by simp
    rw [hall]
    exact q _ (S6.trans (sm5.trans sm7))
end
end T
set_option Elab.async false
set_option maxRecDepth 100000
set_option maxHeartbeats 4000000
namespace Mv
open PySem PySem.Spec PyProof.Rows L2
/-- the law is called where no repr is running: from an abstract heap H that tracks at most the script at a -/
theorem run_law {P : Program} {w : World} {K : PySem.W.Frag} {mg mb : Str → Option Value} {k : Nat} {fa a : Addr} {fd : FuncData} {x : Str} {sp : Sp} {s : Shared} {H : Hp} (KX : K.In s.heap) (hns : s.heap.Ns mainGlobals mg) (hb : s.heap.Ns builtinsNs mb)
    (hbb : ∀ x : Str, x ≠ "__name__" → mb x = bootBuiltins x) (hlim : s.heap.NoLimit) (hg : s.gens = #[]) (hr : Room k callerA) (F : ∀ base : Heap, K.In base → base.Ns mainGlobals mg → FnG P w K mg base k fa fd [x] sp)
    (hbind : ∀ (s : Shared) (u : Value), BindsTo s fd ⟨[u], []⟩ [(x, u)]) (hok : HOk P w H s.heap) (free : ∀ b o, s.heap.get? b = some o → (K.lookup b ≠ none ∨ ∃ es n, o.data = .dict es n) → H b = none)
    (frz : ∀ b u, H b = some u → ∃ o v, u = .frz o v) (hsp : sp [.ref a] H (fun v _ => v = .bl true) E0) :
    codeAny (model P w) callerA (.call (.ref fa) ⟨[.ref a], []⟩) (fun r s' => r = .ok (.ret (.bool true)) ∧ OldK s.heap s'.heap ∧ s'.os = s.os ∧ AllBare s'.gens) s := by
  have ns : ∀ {b : Addr} {m : Str → Option Value}, s.heap.Ns b m → (hidT s.heap H).Ns b m := fun {b m} h => by
    obtain ⟨o, es, ep, e, d, r⟩ := h
    exact ⟨o, es, ep, hidT_get e (free b o e (.inr ⟨es, ep, d⟩)), d, r⟩
  have kb : K.In (hidT s.heap H) := fun b o e => hidT_get (KX b o e) (free b o (KX b o e) (.inl (by rw [e]; simp)))
  have md : Mod K mg (hidT s.heap H) := by
    refine ⟨kb, ns hns, ⟨mb, ns hb, hbb⟩, ?_⟩
    obtain ⟨mc, h1, h2⟩ := hlim
    exact ⟨mc, ns h1, h2⟩
  have e0 : Env0 P w K mg (hidT s.heap H) callerA [] s H :=
    { frames := rfl, mod := md, bs := fun b o e => of_hidT e, bsz := Nat.le_of_eq (hidT_size _ _), funs := trivial, frf := fun b z => by simp [frs] at z, hok := hok, bare := .of_eq hg }
  refine codeAny_mono ((F _ kb (ns hns)).run callerA [] s H ⟨[.ref a], []⟩ [.ref a] [.ref a] _ E0 hr rfl e0 (hbind s (.ref a)) (.cons rfl .nil) hsp) fun r s' h => ?_
  rcases r with e | fl
  · exact False.elim h
  rcases fl with _ | _ | _ | u
  · exact False.elim h
  · exact False.elim h
  · exact False.elim h
  obtain ⟨v, H', os, bare, un, hok', rv, rfl⟩ := h
  obtain rfl : u = Value.bool true := rv
  refine ⟨rfl, OldK.of_keep fun b o e => ?_, os, bare⟩
  by_cases q : H b = none
  · exact un.keep b o e q (by simp [frs]) (by simp)
  · obtain ⟨u, q⟩ := Option.ne_none_iff_exists'.mp q
    obtain ⟨ob, v, rfl⟩ := frz b u q
    have g1 := (hok b _ q).1
    have g2 := (hok' b _ (un.frzs b ob v q)).1
    rw [e] at g1
    cases g1
    exact g2
/-- .. with the script tracked, or as an object of the module -/
theorem law_g {P : Program} {w : World} {K : PySem.W.Frag} {mg mb : Str → Option Value} {k : Nat} {fa a : Addr} {fd : FuncData} {x : Str} {sp : Sp} {s : Shared} {vs : List Value} {ns : List Int} (KX : K.In s.heap) (hns : s.heap.Ns mainGlobals mg) (hb : s.heap.Ns builtinsNs mb)
    (hbb : ∀ x : Str, x ≠ "__name__" → mb x = bootBuiltins x) (hlim : s.heap.NoLimit) (hg : s.gens = #[]) (ha : s.heap.get? a = some { cls := .type "list", data := .seq vs.toArray }) (hi : IntsAre vs ns) (hl : ns.length ≤ sizeLine) (hr : Room k callerA)
    (F : ∀ base : Heap, K.In base → base.Ns mainGlobals mg → FnG P w K mg base k fa fd [x] sp) (hbind : ∀ (s : Shared) (u : Value), BindsTo s fd ⟨[u], []⟩ [(x, u)])
    (hsp : ∀ H : Hp, SqL K H a (ns.map V.int) → sp [.ref a] H (fun v _ => v = .bl true) E0) :
    codeAny (model P w) callerA (.call (.ref fa) ⟨[.ref a], []⟩) (fun r s' => r = .ok (.ret (.bool true)) ∧ OldK s.heap s'.heap ∧ s'.os = s.os ∧ AllBare s'.gens) s := by
  have rv := vals_ints hi
  by_cases hk : K.lookup a = none
  · let so : Obj := { cls := .type "list", data := .seq vs.toArray }
    have at_a : ∀ b u, (if b = a then some (HO.frz so (.lst (ns.map V.int))) else none) = some u → b = a ∧ u = .frz so (.lst (ns.map V.int)) := fun b u z => by
      by_cases e : b = a
      · rw [if_pos e] at z; cases z; exact ⟨e, rfl⟩
      · rw [if_neg e] at z; cases z
    refine run_law (H := fun b => if b = a then some (.frz so (.lst (ns.map V.int))) else none) KX hns hb hbb hlim hg hr F hbind ?_ ?_ ?_ (hsp _ (.inl (.inr ⟨so, if_pos rfl⟩)))
    · intro b u z
      obtain ⟨rfl, rfl⟩ := at_a b u z
      exact ⟨ha, by rw [List.length_map]; exact hl, vs, _, rv, ha⟩
    · intro b o e h
      by_cases eb : b = a
      · subst eb
        rw [ha] at e
        cases e
        rcases h with h | ⟨es, n, h⟩
        · exact absurd hk h
        · cases h
      · exact if_neg eb
    · intro b u z
      obtain ⟨_, rfl⟩ := at_a b u z
      exact ⟨_, _, rfl⟩
  · obtain ⟨o, hko⟩ := Option.ne_none_iff_exists'.mp hk
    have e := KX a o hko
    rw [ha] at e
    cases e
    refine run_law (H := fun _ => none) KX hns hb hbb hlim hg hr F hbind (fun b u z => nomatch z) (fun _ _ _ _ => rfl) (fun b u z => nomatch z) (hsp _ (.inr ⟨_, vs.toArray, _, hko, rfl, rfl, rfl, ?_, by simpa using rv⟩))
    have := hi.length
    simp; omega
theorem walk_g {l : PySem.W.OpenLaw} {n k : Nat} {q : Program} {loose : List Str} {XP : (Str → Option Value) → Heap → Prop} {YP : World → Heap → Prop} {d : DefRec} {K : Params → PySem.W.Frag} {sp : PySem.W.Frag → Sp} {x : Str}
    (hn : l.most = some n) (hn2 : n ≤ sizeLine) (hdf : d.params.defaults = []) (hr : Room k callerA) (hY : ∀ (w : World) (h : Heap), YP w h → (K w.params).In h)
    (F : ∀ (w : World) (mg : Str → Option Value) (fa : Addr) (h : Heap), (K w.params).In h → h.Ns mainGlobals mg → mg d.name = some (.ref fa) →
      ∃ fd : FuncData, (∀ (s : Shared) (u : Value), BindsTo s fd ⟨[u], []⟩ [(x, u)]) ∧ ∀ base : Heap, (K w.params).In base → base.Ns mainGlobals mg → FnG l.prog w (K w.params) mg base k fa fd [x] (sp (K w.params)))
    (hsp : ∀ (K : PySem.W.Frag) (H : Hp) (a : Addr) (ns : List Int), ns.length ≤ n → SqL K H a (ns.map V.int) → sp K [.ref a] H (fun v _ => v = .bl true) E0) :
    PySem.W.WalkO q loose XP YP l.row.toRowW d [] (fun f vs => PySem.call f vs) := by
  refine Att.attach_call hn hdf fun w s₀ s₁ mg mb fa o pm cd doc a vs ns G Y ho hd hcd hmg hobj hints hlen hg => ?_
  obtain ⟨fd, hb, hF⟩ := F w mg fa _ (hY w _ Y) G.T.g hmg
  exact law_g (hY w _ Y) G.T.g G.T.b G.T.builtins G.T.nolimit hg hobj hints (Nat.le_trans hlen hn2) hr hF hb fun H hS => hsp _ H a ns hlen hS
end Mv
set_option Elab.async false
set_option maxRecDepth 100000
set_option maxHeartbeats 4000000
namespace T
open PySem L2 Mv
abbrev s_right : Stmt := top 26
theorem sc_right : FnScope ["_law_pot_here", "_law_a", "_law_b", "_law_one", "_law_fellow", "_law_shown", "_law_turn"] ["_law_pot_here"] (defScope s_right) := ⟨rfl, rfl, rfl, by decide +kernel, rfl, by decide +kernel, by decide +kernel⟩
abbrev s_law : Stmt := top 27
theorem sc_law : FnScope ["_law_script", "_law_k", "_law_pot_here", "_law_turn"] ["_law_script"] (defScope s_law) := ⟨rfl, rfl, rfl, by decide +kernel, rfl, by decide +kernel, by decide +kernel⟩
section
variable {P : Program} {w : World} {K : PySem.W.Frag} {mg : Str → Option Value} {base : Heap} {C : Addr}
/-- (bottom = .., top = ..) in the parameters' order -/
def gBT {α : Type} (vs zs : List α) : List α := match vs, zs with
  | [s], [b, t] => [s, t, b]
  | vs, zs => vs ++ zs
def sp_right : Sp := fun vs H Q _ => ∃ (p : Addr), vs = [.ref p] ∧ Pot H p ∧ ∀ H', Pot H' p → But p H H' → Q (.bl true) H'
theorem But.same {p : Addr} {H H' : Hp} (s : Same H H') : But p H H' := fun b o _ e => s b o e
theorem Pot.same {p : Addr} {H H' : Hp} (h : Pot H p) (s : Same H H') : Pot H' p := by
  obtain ⟨x, y, e, r⟩ := h.ex
  exact ⟨x, y, s _ _ e, r⟩
theorem ok_right {f : Addr} {fd : FuncData} (F : Df K "_law_right" "_law_right" s_right [] f fd) (B : Blt mg) (R : Rat K mg C) (c3 : Ca P w K mg base 4 "_law_parts" sp_parts []) (cN : Ca P w K mg base 5 "_law_near" sp_near []) (cR : Ma P w K mg base 2 "Ratio" C (sp_init C) [])
    (cRk : MaK P w K mg base 2 "Ratio" C (sp_init C) ["bottom", "top"] gBT) (cRepr : Op2 P w K mg base 1 C "__repr__" (sp_txt C rrepr)) (cP : Cg P w K mg base 6 "_law_pair_right" ["_law_one", "_law_fellow", "_law_a", "_law_b"] (sp_pair C) [])
    (cWh : Cg P w K mg base 6 "_law_whole_right" ["_law_one", "_law_a"] (sp_whole C) []) (cRr : Ca P w K mg base 6 "_law_read_right" (sp_rr C) []) :
    FnG P w K mg base 7 f fd ["_law_pot_here"] sp_right := by
  refine dfG F sc_right (fun vs H Q E h => ?_) (fun cdv A outer s H vs Q E hr ga h => ?_)
  · obtain ⟨p, rfl, _⟩ := h
    rfl
  · obtain ⟨p, rfl, hp, q⟩ := h
    refine ⟨_, (pss_cons (ps_set (i := 1) sc_right.nd rfl (Or.inl rfl) (pe_ca c3 hr (by decide) (by rfl) (pa_cons (pv 0) (pa_cons (pe_op op_pow pe_int pe_int) pa_nil))))
  (pss_cons (ps_set (i := 2) sc_right.nd rfl (Or.inl rfl) (pe_ca cN hr (by decide) (by rfl) (pa_cons (pv 0) (pa_cons (pv 1) pa_nil))))
  (pss_cons (ps_par (i := 3) (j := 4) (by rfl) sc_right.nd rfl rfl (by decide) rfl rfl (pa_cons (pe_ma cR hr (by decide) (by rfl) (pa_cons (pe_ix ix_tup (pv 1) pe_int (fun _ _ => rfl)) (pa_cons (pe_ix ix_tup (pv 1) pe_int (fun _ _ => rfl)) pa_nil))) (pa_cons (pe_mak cRk hr (by decide) (by rfl) (pk_cons (pe_ix ix_tup (pv 2) pe_int (fun _ _ => rfl)) (pk_cons (pe_ix ix_tup (pv 2) pe_int (fun _ _ => rfl)) pk_nil))) pa_nil)) (by rfl))
  (pss_cons (ps_set (i := 5) sc_right.nd rfl (Or.inl rfl) (pe_callB (call_reprL (k := 1) ga (hr.mono (by decide))) (by rfl) B.repr bt_repr (pa_cons (pe_lst (pa_cons (pv 3) (pa_cons (pv 4) pa_nil))) pa_nil)))
  (pss_cons (ps_for PassesOwn.never rfl (pi_range1 (by rfl) B.range (pa_cons pe_int pa_nil)) (pg_name (i := 6) sc_right.nd rfl (Or.inl rfl))
  (pss_cons (ps_if (PW.pt (pw_or (pt_not (pt_val (pe_g cP hr ga (by decide) (by rfl) (pa_cons (pv 3) (pa_cons (pv 4) (pa_cons (pv 1) (pa_cons (pv 2) pa_nil))))))) (pw_or (pt_not (pt_val (pe_g cWh hr ga (by decide) (by rfl) (pa_cons (pv 3) (pa_cons (pv 1) pa_nil))))) (pw_or1 (pt_not (pt_val (pe_g cWh hr ga (by decide) (by rfl) (pa_cons (pv 4) (pa_cons (pv 2) pa_nil)))))))))
  (pss_one (ps_ret pe_bl))
  pss_nil)
  (pss_one (ps_if (PW.pt (pw_or (pt_not (pt_val (pe_ca cRr hr (by decide) (by rfl) (pa_cons (pv 3) pa_nil)))) (pw_or1 (pt_not (pt_val (pe_ca cRr hr (by decide) (by rfl) (pa_cons (pv 4) pa_nil)))))))
  (pss_one (ps_ret pe_bl))
  pss_nil))))
  (pss_one (ps_ret (pe_cmpR op_eq (pe_callB (call_reprL (k := 1) ga (hr.mono (by decide))) (by rfl) B.repr bt_repr (pa_cons (pe_lst (pa_cons (pv 3) (pa_cons (pv 4) pa_nil))) pa_nil)) (pv 5) (nomark _))))))))), ?_⟩
    refine ⟨_, rfl, _, _, rfl, rfl, ⟨by decide, by decide, by decide⟩, p, 10 ^ 29, rfl, hp, by decide, by decide, fun ta u l H1 hu hl hl0 _ et hp1 b1 => ?_⟩
    have su : S1 u := hu
    have sl : S1 l := hl
    refine ⟨_, rfl, _, rfl, p, ta, u, l, rfl, hp1, et, su, sl, hl0, fun tb u' l' H2 su' sl' hl0' htb et' hp2 b2 => ?_⟩
    have tap : ta ≠ p := by
      obtain ⟨x, y, e, _⟩ := hp1.ex
      exact ne_of et e (by intro z; cases z)
    have et2 := b2 _ _ tap et
    have su2 : S2 u := Nat.lt_of_le_of_lt su (by decide)
    have sl2 : S2 l := Nat.lt_of_le_of_lt sl (by decide)
    have w2 : ∀ {i : Int}, S2 i → i.natAbs < 2 ^ 8000 := fun h => h.sz.wide
    refine ⟨_, rfl, ta, _, _, _, rfl, rfl, SqT.of et2, rfl, _, rfl, ta, _, _, _, rfl, rfl, SqT.of et2, rfl, fun x dx hx hdx hne => ⟨x, dx, u, l, rfl, upd_same, hl0, w2 sl2, rfl, ?_⟩⟩
    rw [upd_upd]
    have m1 := fun o o' => same_make (o := o) (o' := o') hx hdx hne
    refine ⟨_, rfl, tb, _, _, _, rfl, rfl, SqT.of (m1 _ _ _ _ et'), rfl, _, rfl, tb, _, _, _, rfl, rfl, SqT.of (m1 _ _ _ _ et'), rfl, rfl, rfl, fun y dy hy hdy hney => ⟨y, dy, u', l', rfl, upd_same, hl0', w2 sl', rfl, ?_⟩⟩
    rw [upd_upd]
    have m2 := fun o o' => (m1 _ _).trans (same_make (o := o) (o' := o') hy hdy hney)
    obtain ⟨H3, e3⟩ : ∃ H3, H3 = upd (upd (upd (upd H2 dx (.own x)) x (.ins C dx (flds (Rm.rt u l) (Rm.rb u l)))) dy (.own y)) y (.ins C dy (flds (Rm.rt u' l') (Rm.rb u' l'))) := ⟨_, rfl⟩
    rw [← e3]
    have s3 : Same H2 H3 := by rw [e3]; exact m2 _ _
    have ey : H3 y = some (.ins C dy (flds (Rm.rt u' l') (Rm.rb u' l'))) := by rw [e3]; exact upd_same
    have ex : H3 x = some (.ins C dx (flds (Rm.rt u l) (Rm.rb u l))) := by
      rw [e3]; exact same_make hy hdy hney _ _ upd_same
    clear e3
    have fx : Frac C H3 x u l := ⟨⟨dx, ex⟩, hl0, su2, sl2⟩
    have fy : Frac C H3 y u' l' := ⟨⟨dy, ey⟩, hl0', su', sl'⟩
    have eta := s3 _ _ et2
    have etb := s3 _ _ et'
    have b3 : But p H H3 := b1.trans (b2.trans (But.same s3))
    have hp3 := hp2.same s3
    -- shown = repr([one, fellow])
    have rx : ∀ {H' : Hp}, Same H3 H' → ∀ Q : VK, Q (.str (rrepr (Rm.rt u l) (Rm.rb u l))) H' → sp_txt C rrepr [.ref x] H' Q E0 := fun sm Q q => ⟨x, dx, _, _, rfl, sm _ _ ex, fx.st, fx.sb, q⟩
    have ry : ∀ {H' : Hp}, Same H3 H' → ∀ Q : VK, Q (.str (rrepr (Rm.rt u' l') (Rm.rb u' l'))) H' → sp_txt C rrepr [.ref y] H' Q E0 := fun sm Q q => ⟨y, dy, _, _, rfl, sm _ _ ey, fy.st, fy.sb, q⟩
    have len2 : (listText [rrepr (Rm.rt u l) (Rm.rb u l), rrepr (Rm.rt u' l') (Rm.rb u' l')]).length ≤ sizeLine := by
      have e : listText [rrepr (Rm.rt u l) (Rm.rb u l), rrepr (Rm.rt u' l') (Rm.rb u' l')] = "[" ++ "" ++ rrepr (Rm.rt u l) (Rm.rb u l) ++ ", " ++ rrepr (Rm.rt u' l') (Rm.rb u' l') ++ "]" := rfl
      rw [e]
      unfold rrepr
      simp only [app_len]
      have q1 := num_len fx.st
      have q2 := num_len fx.sb
      have q3 := num_len fy.st
      have q4 := num_len fy.sb
      have z1 : ("[" : Str).length = 1 := rfl
      have z2 : (", " : Str).length = 2 := rfl
      have z3 : ("]" : Str).length = 1 := rfl
      have z4 : ("" : Str).length = 0 := rfl
      have z5 : ("Ratio(" : Str).length = 6 := rfl
      have z6 : (")" : Str).length = 1 := rfl
      have z7 : (Str.empty : Str).length = 0 := rfl
      unfold sizeLine
      omega
    refine ⟨_, _, rfl, ?_⟩
    refine ⟨_, rfl, _, rfl, by show 2 ≤ sizeLine; decide, fun l1 hl1 => ?_⟩
    have s4 := fun o => same_new (o := o) hl1
    refine ⟨l1, .ref x, [.ref y], [rrepr (Rm.rt u l) (Rm.rb u l), rrepr (Rm.rt u' l') (Rm.rb u' l')], rfl, SqL.of upd_same, .cons (RepX.own cRepr (s4 _ _ _ ex) (rx (s4 _))) (.cons (RepX.own cRepr (s4 _ _ _ ey) (ry (s4 _))) .nil), len2, ?_⟩
    -- for turn in range(2)
    refine ⟨2, rfl, by decide, by decide, for_range (lo := 0) (n := 2) (fun i σ H' => ∃ v, σ = [some (.ref p), some (.ref ta), some (.ref tb), some (.ref x), some (.ref y), some (.str (listText [rrepr (Rm.rt u l) (Rm.rb u l), rrepr (Rm.rt u' l') (Rm.rb u' l')])), v] ∧ Same H3 H') ⟨_, rfl, s4 _⟩ ?_ ?_⟩
    · rintro i σ H5 hi ⟨v, rfl, sm⟩
      have fx5 := fx.same sm
      have fy5 := fy.same sm
      refine ⟨_, rfl, _, rfl, _, rfl, _, rfl, x, y, ta, tb, u, l, u', l', rfl, fx5, fy5, sm _ _ eta, sm _ _ etb, fun H6 s6 => ⟨_, rfl, ?_⟩⟩
      refine iteF ?_
      refine ⟨_, rfl, _, rfl, x, ta, u, l, rfl, fx5.same s6, s6 _ _ (sm _ _ eta), fun H7 s7 => ⟨_, rfl, ?_⟩⟩
      refine iteF ?_
      refine ⟨_, rfl, _, rfl, y, tb, u', l', rfl, fy5.same (s6.trans s7), s7 _ _ (s6 _ _ (sm _ _ etb)), fun H8 s8 => ⟨_, rfl, ?_⟩⟩
      refine iteF ?_
      have t8 := sm.trans (s6.trans (s7.trans s8))
      refine ⟨_, rfl, x, u, l, rfl, fx.same t8, fun H9 s9 => ⟨_, rfl, ?_⟩⟩
      refine iteF ?_
      refine ⟨_, rfl, y, u', l', rfl, fy.same (t8.trans s9), fun H10 s10 => ⟨_, rfl, ?_⟩⟩
      refine iteF ?_
      exact ⟨_, rfl, t8.trans (s9.trans s10)⟩
    · rintro σ H5 ⟨v, rfl, sm⟩
      refine ⟨_, rfl, _, rfl, by show 2 ≤ sizeLine; decide, fun l2 hl2 => ?_⟩
      have s5 := fun o => sm.trans (same_new (o := o) hl2)
      refine ⟨l2, .ref x, [.ref y], [rrepr (Rm.rt u l) (Rm.rb u l), rrepr (Rm.rt u' l') (Rm.rb u' l')], rfl, SqL.of upd_same, .cons (RepX.own cRepr (s5 _ _ _ ex) (rx (s5 _))) (.cons (RepX.own cRepr (s5 _ _ _ ey) (ry (s5 _))) .nil), len2, ?_⟩
      refine ⟨_, rfl, rfl, ?_⟩
      rw [decide_eq_true rfl]
      exact q _ (hp3.same (s5 _)) (b3.trans (But.same (s5 _)))
/-- the script is kept by what changes p alone, p being new -/
theorem But.seqN {p l : Addr} {H H' : Hp} {xs : List V} (b : But p H H') (hp : H p = none) (h : SqL K H l xs) : SqL K H' l xs := by
  rcases h with (h | ⟨o, h⟩) | h
  · exact .inl (.inl (b _ _ (ne_of_none h hp) h))
  · exact .inl (.inr ⟨o, b _ _ (ne_of_none h hp) h⟩)
  · exact .inr h
theorem But.toSame {p : Addr} {H H' : Hp} (b : But p H H') (hp : H p = none) : Same H H' := fun c o e => b c o (ne_of_none e hp) e
def sp_law (K : PySem.W.Frag) : Sp := fun vs H Q _ => ∃ (a : Addr) (ns : List Int), vs = [.ref a] ∧ SqL K H a (ns.map V.int) ∧ ns.length ≤ 63 ∧ ∀ H', Q (.bl true) H'
theorem ok_law {f : Addr} {fd : FuncData} (F : Df K "law" "law" s_law [] f fd) (B : Blt mg) (cPot : Ca P w K mg base 1 "_law_pot" (sp_pot K) []) (cRight : Cg P w K mg base 7 "_law_right" ["_law_pot_here"] sp_right []) :
    FnG P w K mg base 8 f fd ["_law_script"] (sp_law K) := by
  refine dfG F sc_law (fun vs H Q E h => ?_) (fun cdv A outer s H vs Q E hr ga h => ?_)
  · obtain ⟨a, ns, rfl, _⟩ := h
    rfl
  · obtain ⟨a, ns, rfl, hS, hlen, q⟩ := h
    refine ⟨_, (pss_cons (ps_for PassesOwn.never rfl (pi_range1 (by rfl) B.range (pa_cons (pe_callB (call_max2 rfl) (by rfl) B.max bt_max (pa_cons pe_int (pa_cons (pe_callB (call_min2 rfl) (by rfl) B.min bt_min (pa_cons (pe_callB call_len_seq (by rfl) B.len bt_len (pa_cons (pv 0) pa_nil)) (pa_cons pe_int pa_nil))) pa_nil))) pa_nil)) (pg_name (i := 1) sc_law.nd rfl (Or.inl rfl))
  (pss_cons (ps_set (i := 2) sc_law.nd rfl (Or.inr rfl) (pe_ca cPot hr (by decide) (by rfl) (pa_cons (pv 0) (pa_cons (pv 1) pa_nil))))
  (pss_one (ps_if (pt_not (pt_val (pe_callB (cr_all rfl) (by rfl) B.all bt_all (pa_cons (pe_lc (own := [("_law_turn", 3)]) (by rfl) sc_law.nd (pi_range1 (by rfl) B.range (pa_cons pe_int pa_nil)) (blkOk_by (own := [("_law_turn", 3)]) (N := ["_law_script", "_law_k", "_law_pot_here", "_law_turn"]) (sc := defScope s_law) (by decide +kernel)) (fun _ _ _ _ _ => (pg_name (i := 3) sc_law.nd rfl (Or.inl rfl))) (fun _ _ _ _ _ => pts_nil) (fun _ _ _ _ _ => (pe_g cRight hr ga (by decide) (by rfl) (pa_cons (pv 2) pa_nil)))) pa_nil))))
  (pss_one (ps_ret pe_bl))
  pss_nil))))
  (pss_one (ps_ret pe_bl))), ?_⟩
    refine ⟨_, rfl, a, _, rfl, .inl hS, _, _, rfl, _, _, rfl, ?_⟩
    obtain ⟨n, en, hn4⟩ : ∃ n : Nat, (if (if (4 : Int) < (((ns.map V.int).length : Nat) : Int) then (4 : Int) else (((ns.map V.int).length : Nat) : Int)) > 1 then (if (4 : Int) < (((ns.map V.int).length : Nat) : Int) then (4 : Int) else (((ns.map V.int).length : Nat) : Int)) else 1) = (n : Int) ∧ n ≤ 4 := by
      generalize (ns.map V.int).length = m
      by_cases h4 : (4 : Int) < (m : Int)
      · rw [if_pos h4]
        exact ⟨4, by decide, by decide⟩
      · rw [if_neg h4]
        by_cases h1 : (m : Int) > 1
        · rw [if_pos h1]
          exact ⟨m, rfl, by omega⟩
        · rw [if_neg h1]
          exact ⟨1, rfl, by decide⟩
    rw [en]
    refine ⟨_, rfl, by omega, by omega, for_range (lo := 0) (n := n) (fun i σ H' => ∃ v1 v2 v3, σ = [some (.ref a), v1, v2, v3] ∧ Same H H') ⟨_, _, _, rfl, Same.refl H⟩ ?_ ?_⟩
    · rintro i σ H1 hi ⟨v1, v2, v3, rfl, s1⟩
      rw [show (0 : Int) + (i : Int) = (i : Int) by omega]
      refine ⟨_, rfl, _, rfl, a, ns, i, rfl, s1.seq hS, by omega, fun p hp x y hx hy hy2 => ?_⟩
      have pot0 : Pot (upd H1 p (.lst [.int x, .int y])) p := ⟨x, y, upd_same, hx, hy, hy2⟩
      refine ⟨3, rfl, by decide, by decide, fun D hD => ?_⟩
      have hDp : D ≠ p := pot0.ne hD
      refine lc_range (lo := 0) (n := 3) (fun j H' => Pot H' p ∧ But p (upd H1 p (.lst [.int x, .int y])) H' ∧ H' D = some (.lst (List.replicate j (V.bl true)))) ⟨pot0.new hD, But.new hD, upd_same⟩ ?_ ?_
      · rintro j H2 hj ⟨pt, bt, ed⟩
        refine ⟨rfl, _, rfl, p, rfl, pt, fun H3 pt3 bt3 => ⟨_, bt3 _ _ hDp ed, ?_, ?_, ?_, ?_⟩⟩
        · simp; unfold sizeLine; omega
        · obtain ⟨x', y', e, r⟩ := pt3.ex
          exact ⟨x', y', by rw [upd_ne (Ne.symm hDp)]; exact e, r⟩
        · intro c o hc e
          rw [upd_ne (ne_of_none e hD)]
          exact bt3 _ _ hc (bt _ _ hc e)
        · rw [upd_same]
          simp [List.replicate_succ']
      · rintro H2 ⟨pt, bt, ed⟩
        refine ⟨D, [true, true, true], rfl, SqL.of ed, _, rfl, ?_⟩
        refine iteF ?_
        refine ⟨_, _, _, rfl, ?_⟩
        exact s1.trans (((But.new hp).trans bt).toSame hp)
    · rintro σ H1 ⟨v1, v2, v3, rfl, s1⟩
      exact q _
end
end T
set_option Elab.async false
set_option maxRecDepth 100000
set_option maxHeartbeats 4000000
namespace T
open PySem L2 Mv
section
variable {P : Program} {w : World} {K : PySem.W.Frag} {mg : Str → Option Value} {base : Heap} {C : Addr}
theorem init_b1 {f : Addr} {fd : FuncData} (F : Df K "__init__" "Ratio.__init__" s_init [.int 1] f fd) : ∃ ds, Vals [V.int 1] ds ∧ Binds K fd ["self", "top", "bottom"] ds :=
  FunD.binds1 F (ps := ["self", "top", "bottom"]) 2 0 (by simp) rfl fun T kV doc pm an cdv ct us its hl hi => match us, its, hl, hi with
    | [_, _], [_], _, _ => ⟨_, rfl, rfl⟩
theorem init_b2 {f : Addr} {fd : FuncData} (F : Df K "__init__" "Ratio.__init__" s_init [.int 1] f fd) : ∃ ds, Vals [] ds ∧ Binds K fd ["self", "top", "bottom"] ds :=
  FunD.binds1 F (ps := ["self", "top", "bottom"]) 3 1 (by simp) rfl fun T kV doc pm an cdv ct us its hl hi => match us, its, hl, hi with
    | [_, _, _], [_], _, _ => ⟨_, rfl, rfl⟩
theorem gBT_rel {vs zs : List V} {us ws : List Value} (r1 : Vals vs us) (r2 : Vals zs ws) : Vals (gBT vs zs) (gBT us ws) := by
  have ap := Vals.append r1 r2
  cases r1 with
  | nil => exact ap
  | cons h t =>
    cases t with
    | cons _ _ => exact ap
    | nil =>
      cases r2 with
      | nil => exact ap
      | cons h2 t2 =>
        cases t2 with
        | nil => exact ap
        | cons h3 t3 =>
          cases t3 with
          | nil => exact .cons h (.cons h3 (.cons h2 .nil))
          | cons _ _ => exact ap
theorem init_k {f : Addr} {fd : FuncData} (F : Df K "__init__" "Ratio.__init__" s_init [.int 1] f fd) : ∃ g, KBn K fd ["self", "top", "bottom"] 1 ["bottom", "top"] g gBT := by
  obtain ⟨its, h⟩ := FunD.kbindsD F (ps := ["self", "top", "bottom"]) 1 ["bottom", "top"] (fun vs _ zs => gBT vs zs) (by simp) (fun r1 _ r2 => gBT_rel r1 r2) fun T kV doc pm an cdv ct us its ws h1 h2 h3 => match us, its, ws, h1, h2, h3 with
    | [_], [_], [_, _], _, _, _ => ⟨_, rfl, rfl⟩
  exact ⟨_, h⟩
end
theorem all_mk {P : Program} {w : World} {K : PySem.W.Frag} {h : Heap} {mg : Str → Option Value} {fa : Addr} (X : K.In h) (G : h.Ns mainGlobals mg) (hfa : mg "law" = some (.ref fa))
    {C : Addr} {tD : Tok} {f_isint : Addr} {oc_isint kV_isint dc_isint pm_isint cd_isint ct_isint : Value} {od_isint an_isint : Option Addr} {sl_isint : Array (Option Value)} {f_isnum : Addr} {oc_isnum kV_isnum dc_isnum pm_isnum cd_isnum ct_isnum : Value} {od_isnum an_isnum : Option Addr} {sl_isnum : Array (Option Value)} {f_wantnum : Addr} {oc_wantnum kV_wantnum dc_wantnum pm_wantnum cd_wantnum ct_wantnum : Value} {od_wantnum an_wantnum : Option Addr} {sl_wantnum : Array (Option Value)} {f_asratio : Addr} {oc_asratio kV_asratio dc_asratio pm_asratio cd_asratio ct_asratio : Value} {od_asratio an_asratio : Option Addr} {sl_asratio : Array (Option Value)} {f_wt : Addr} {oc_wt kV_wt dc_wt pm_wt cd_wt ct_wt : Value} {od_wt an_wt : Option Addr} {sl_wt : Array (Option Value)} {f_rin : Addr} {oc_rin kV_rin dc_rin pm_rin cd_rin ct_rin : Value} {od_rin an_rin : Option Addr} {sl_rin : Array (Option Value)} {f_common : Addr} {oc_common kV_common dc_common pm_common cd_common ct_common : Value} {od_common an_common : Option Addr} {sl_common : Array (Option Value)} {T0 : Addr} {cT : Value} {dT : Option Addr} {tT : Tok} {nT0 : Nat} {sT : Array (Option Value)} {f_init : Addr} {oc_init kV_init dc_init pm_init cd_init ct_init : Value} {od_init an_init : Option Addr} {sl_init : Array (Option Value)} {p_read : Addr} {r_read : List Value} {m_read : Value} {f_read : Addr} {oc_read kV_read dc_read pm_read cd_read ct_read : Value} {od_read an_read : Option Addr} {sl_read : Array (Option Value)} {p_top : Addr} {r_top : List Value} {f_top : Addr} {oc_top kV_top dc_top pm_top cd_top ct_top : Value} {od_top an_top : Option Addr} {sl_top : Array (Option Value)} {p_bottom : Addr} {r_bottom : List Value} {f_bottom : Addr} {oc_bottom kV_bottom dc_bottom pm_bottom cd_bottom ct_bottom : Value} {od_bottom an_bottom : Option Addr} {sl_bottom : Array (Option Value)} {f_below : Addr} {oc_below kV_below dc_below pm_below cd_below ct_below : Value} {od_below an_below : Option Addr} {sl_below : Array (Option Value)} {f_floor : Addr} {oc_floor kV_floor dc_floor pm_floor cd_floor ct_floor : Value} {od_floor an_floor : Option Addr} {sl_floor : Array (Option Value)} {f_eq : Addr} {oc_eq kV_eq dc_eq pm_eq cd_eq ct_eq : Value} {od_eq an_eq : Option Addr} {sl_eq : Array (Option Value)} {f_str : Addr} {oc_str kV_str dc_str pm_str cd_str ct_str : Value} {od_str an_str : Option Addr} {sl_str : Array (Option Value)} {f_repr : Addr} {oc_repr kV_repr dc_repr pm_repr cd_repr ct_repr : Value} {od_repr an_repr : Option Addr} {sl_repr : Array (Option Value)} {f_pot : Addr} {oc_pot kV_pot dc_pot pm_pot cd_pot ct_pot : Value} {od_pot an_pot : Option Addr} {sl_pot : Array (Option Value)} {f_draw : Addr} {oc_draw kV_draw dc_draw pm_draw cd_draw ct_draw : Value} {od_draw an_draw : Option Addr} {sl_draw : Array (Option Value)} {f_pick : Addr} {oc_pick kV_pick dc_pick pm_pick cd_pick ct_pick : Value} {od_pick an_pick : Option Addr} {sl_pick : Array (Option Value)} {f_integer : Addr} {oc_integer kV_integer dc_integer pm_integer cd_integer ct_integer : Value} {od_integer an_integer : Option Addr} {sl_integer : Array (Option Value)} {f_parts : Addr} {oc_parts kV_parts dc_parts pm_parts cd_parts ct_parts : Value} {od_parts an_parts : Option Addr} {sl_parts : Array (Option Value)} {f_near : Addr} {oc_near kV_near dc_near pm_near cd_near ct_near : Value} {od_near an_near : Option Addr} {sl_near : Array (Option Value)} {f_order : Addr} {oc_order kV_order dc_order pm_order cd_order ct_order : Value} {od_order an_order : Option Addr} {sl_order : Array (Option Value)} {f_pair : Addr} {oc_pair kV_pair dc_pair pm_pair cd_pair ct_pair : Value} {od_pair an_pair : Option Addr} {sl_pair : Array (Option Value)} {f_whole : Addr} {oc_whole kV_whole dc_whole pm_whole cd_whole ct_whole : Value} {od_whole an_whole : Option Addr} {sl_whole : Array (Option Value)} {f_rr : Addr} {oc_rr kV_rr dc_rr pm_rr cd_rr ct_rr : Value} {od_rr an_rr : Option Addr} {sl_rr : Array (Option Value)} {f_right : Addr} {oc_right kV_right dc_right pm_right cd_right ct_right : Value} {od_right an_right : Option Addr} {sl_right : Array (Option Value)} {f_law : Addr} {oc_law kV_law dc_law pm_law cd_law ct_law : Value} {od_law an_law : Option Addr} {sl_law : Array (Option Value)}
    (g_C : PySem.W.nsIn K mainGlobals "Ratio" = some (some (.ref C)))
    (pg : PySem.W.plainGet K C Str.empty = true)
    (hd : PySem.W.hasDictIn K C = true)
    (po : PySem.W.plainOver K C = true)
    (sa : PySem.W.findIn K (.ref C) "__setattr__" = some (some (.builtin "object.__setattr__")))
    (mk : PySem.W.makesIn K C = true)
    (kc : PySem.W.keepIn K (.ref C) = true)
    (nT : PySem.W.findIn K (.ref C) "own_top" = some none)
    (nB : PySem.W.findIn K (.ref C) "own_bottom" = some none)
    (ha : PySem.W.findIn K (.ref C) "__class__" = some (some (.builtin "object.__class__")))
    (hn : PySem.W.specialIn K (.builtin "object.__class__") "__get__" = some (some (.builtin "getset_descriptor.__get__")))
    (htk : PySem.W.takesIn K (.builtin "object.__class__") = some true)
    (hm : PySem.W.mroIn K C (.type "object") = some true)
    (me : PySem.W.kitOne K (.ref C) (.ref C) = some true)
    (ki : PySem.W.kitOne K (.ref C) (.type "int") = some false)
    (kb : PySem.W.kitOne K (.ref C) (.type "bool") = some false)
    (ks : PySem.W.kitOne K (.ref C) (.type "str") = some false)
    (ne : PySem.W.findIn K (.ref C) "__ne__" = some (some (.builtin "object.__ne__")))
    (o1_NoneType : PySem.W.kitOne K (.type "NoneType") (.ref C) = some false)
    (o2_NoneType : PySem.W.notFirst K C (.type "NoneType") = true)
    (o1_bool : PySem.W.kitOne K (.type "bool") (.ref C) = some false)
    (o2_bool : PySem.W.notFirst K C (.type "bool") = true)
    (o1_int : PySem.W.kitOne K (.type "int") (.ref C) = some false)
    (o2_int : PySem.W.notFirst K C (.type "int") = true)
    (o1_str : PySem.W.kitOne K (.type "str") (.ref C) = some false)
    (o2_str : PySem.W.notFirst K C (.type "str") = true)
    (o1_list : PySem.W.kitOne K (.type "list") (.ref C) = some false)
    (o2_list : PySem.W.notFirst K C (.type "list") = true)
    (o1_tuple : PySem.W.kitOne K (.type "tuple") (.ref C) = some false)
    (o2_tuple : PySem.W.notFirst K C (.type "tuple") = true)
    (o1_dict : PySem.W.kitOne K (.type "dict") (.ref C) = some false)
    (o2_dict : PySem.W.notFirst K C (.type "dict") = true)
    (z_len : PySem.W.nsIn K mainGlobals "len" = some none)
    (z_abs : PySem.W.nsIn K mainGlobals "abs" = some none)
    (z_max : PySem.W.nsIn K mainGlobals "max" = some none)
    (z_min : PySem.W.nsIn K mainGlobals "min" = some none)
    (z_int : PySem.W.nsIn K mainGlobals "int" = some none)
    (z_bool : PySem.W.nsIn K mainGlobals "bool" = some none)
    (z_str : PySem.W.nsIn K mainGlobals "str" = some none)
    (z_repr : PySem.W.nsIn K mainGlobals "repr" = some none)
    (z_all : PySem.W.nsIn K mainGlobals "all" = some none)
    (z_any : PySem.W.nsIn K mainGlobals "any" = some none)
    (z_range : PySem.W.nsIn K mainGlobals "range" = some none)
    (z_divmod : PySem.W.nsIn K mainGlobals "divmod" = some none)
    (z_isinstance : PySem.W.nsIn K mainGlobals "isinstance" = some none)
    (gD : PySem.W.nsIn K mainGlobals "DIGITS" = some (some (.str "0123456789" tD)))
    (a_isint : PySem.W.nsIn K mainGlobals "is_integer" = some (some (.ref f_isint)))
    (l_isint : K.lookup f_isint = some ⟨oc_isint, od_isint, .func (PySem.W.fnOf "is_integer" "is_integer" (defArgs s_isint) (defBody s_isint) (defScope s_isint) .none kV_isint dc_isint pm_isint an_isint cd_isint ct_isint), sl_isint⟩)
    (c_isint : PySem.W.codeIn K cd_isint "is_integer" = true)
    (k_isint : PySem.W.keepIn K (.ref f_isint) = true)
    (a_isnum : PySem.W.nsIn K mainGlobals "is_number" = some (some (.ref f_isnum)))
    (l_isnum : K.lookup f_isnum = some ⟨oc_isnum, od_isnum, .func (PySem.W.fnOf "is_number" "is_number" (defArgs s_isnum) (defBody s_isnum) (defScope s_isnum) .none kV_isnum dc_isnum pm_isnum an_isnum cd_isnum ct_isnum), sl_isnum⟩)
    (c_isnum : PySem.W.codeIn K cd_isnum "is_number" = true)
    (k_isnum : PySem.W.keepIn K (.ref f_isnum) = true)
    (a_wantnum : PySem.W.nsIn K mainGlobals "want_number" = some (some (.ref f_wantnum)))
    (l_wantnum : K.lookup f_wantnum = some ⟨oc_wantnum, od_wantnum, .func (PySem.W.fnOf "want_number" "want_number" (defArgs s_wantnum) (defBody s_wantnum) (defScope s_wantnum) .none kV_wantnum dc_wantnum pm_wantnum an_wantnum cd_wantnum ct_wantnum), sl_wantnum⟩)
    (c_wantnum : PySem.W.codeIn K cd_wantnum "want_number" = true)
    (k_wantnum : PySem.W.keepIn K (.ref f_wantnum) = true)
    (a_asratio : PySem.W.nsIn K mainGlobals "as_ratio" = some (some (.ref f_asratio)))
    (l_asratio : K.lookup f_asratio = some ⟨oc_asratio, od_asratio, .func (PySem.W.fnOf "as_ratio" "as_ratio" (defArgs s_asratio) (defBody s_asratio) (defScope s_asratio) .none kV_asratio dc_asratio pm_asratio an_asratio cd_asratio ct_asratio), sl_asratio⟩)
    (c_asratio : PySem.W.codeIn K cd_asratio "as_ratio" = true)
    (k_asratio : PySem.W.keepIn K (.ref f_asratio) = true)
    (a_wt : PySem.W.nsIn K mainGlobals "is_whole_text" = some (some (.ref f_wt)))
    (l_wt : K.lookup f_wt = some ⟨oc_wt, od_wt, .func (PySem.W.fnOf "is_whole_text" "is_whole_text" (defArgs s_wt) (defBody s_wt) (defScope s_wt) .none kV_wt dc_wt pm_wt an_wt cd_wt ct_wt), sl_wt⟩)
    (c_wt : PySem.W.codeIn K cd_wt "is_whole_text" = true)
    (k_wt : PySem.W.keepIn K (.ref f_wt) = true)
    (a_rin : PySem.W.nsIn K mainGlobals "ratio_in" = some (some (.ref f_rin)))
    (l_rin : K.lookup f_rin = some ⟨oc_rin, od_rin, .func (PySem.W.fnOf "ratio_in" "ratio_in" (defArgs s_rin) (defBody s_rin) (defScope s_rin) .none kV_rin dc_rin pm_rin an_rin cd_rin ct_rin), sl_rin⟩)
    (c_rin : PySem.W.codeIn K cd_rin "ratio_in" = true)
    (k_rin : PySem.W.keepIn K (.ref f_rin) = true)
    (a_common : PySem.W.nsIn K mainGlobals "common_part" = some (some (.ref f_common)))
    (l_common : K.lookup f_common = some ⟨oc_common, od_common, .func (PySem.W.fnOf "common_part" "common_part" (defArgs s_common) (defBody s_common) (defScope s_common) .none kV_common dc_common pm_common an_common cd_common ct_common), sl_common⟩)
    (c_common : PySem.W.codeIn K cd_common "common_part" = true)
    (k_common : PySem.W.keepIn K (.ref f_common) = true)
    (a_init : PySem.W.findIn K (.ref C) "__init__" = some (some (.ref f_init)))
    (i_init : PySem.W.isFn K (.ref f_init) = true)
    (l_init : K.lookup f_init = some ⟨oc_init, od_init, .func (PySem.W.fnOf "__init__" "Ratio.__init__" (defArgs s_init) (defBody s_init) (defScope s_init) (.ref T0) kV_init dc_init pm_init an_init cd_init ct_init), sl_init⟩)
    (c_init : PySem.W.codeIn K cd_init "Ratio.__init__" = true)
    (k_init : PySem.W.keepIn K (.ref f_init) = true)
    (lT : K.lookup T0 = some ⟨cT, dT, .seq #[.int 1 tT] nT0, sT⟩)
    (t_read : PySem.W.typeIn K (.ref C) = some m_read)
    (g_read : PySem.W.specialIn K (.ref C) "__getattribute__" = some (some (.builtin "type.__getattribute__")))
    (d_read : PySem.W.readsIn K C m_read = true)
    (a_read : PySem.W.findCls K (.ref C) m_read "read" = some (.get (.builtin "staticmethod.__get__") (.ref p_read) .none (.ref C)))
    (e_read : PySem.W.recIn K p_read "staticmethod" = some (.ref f_read :: r_read))
    (v_read : PySem.W.handedIn (.ref f_read) = true)
    (l_read : K.lookup f_read = some ⟨oc_read, od_read, .func (PySem.W.fnOf "read" "Ratio.read" (defArgs s_read) (defBody s_read) (defScope s_read) .none kV_read dc_read pm_read an_read cd_read ct_read), sl_read⟩)
    (c_read : PySem.W.codeIn K cd_read "Ratio.read" = true)
    (k_read : PySem.W.keepIn K (.ref f_read) = true)
    (a_top : PySem.W.findIn K (.ref C) "top" = some (some (.ref p_top)))
    (sp_top : PySem.W.specialIn K (.ref p_top) "__get__" = some (some (.builtin "property.__get__")))
    (t_top : PySem.W.takesIn K (.ref p_top) = some true)
    (e_top : PySem.W.recIn K p_top "property" = some (.ref f_top :: r_top))
    (l_top : K.lookup f_top = some ⟨oc_top, od_top, .func (PySem.W.fnOf "top" "Ratio.top" (defArgs s_top) (defBody s_top) (defScope s_top) .none kV_top dc_top pm_top an_top cd_top ct_top), sl_top⟩)
    (c_top : PySem.W.codeIn K cd_top "Ratio.top" = true)
    (k_top : PySem.W.keepIn K (.ref f_top) = true)
    (a_bottom : PySem.W.findIn K (.ref C) "bottom" = some (some (.ref p_bottom)))
    (sp_bottom : PySem.W.specialIn K (.ref p_bottom) "__get__" = some (some (.builtin "property.__get__")))
    (t_bottom : PySem.W.takesIn K (.ref p_bottom) = some true)
    (e_bottom : PySem.W.recIn K p_bottom "property" = some (.ref f_bottom :: r_bottom))
    (l_bottom : K.lookup f_bottom = some ⟨oc_bottom, od_bottom, .func (PySem.W.fnOf "bottom" "Ratio.bottom" (defArgs s_bottom) (defBody s_bottom) (defScope s_bottom) .none kV_bottom dc_bottom pm_bottom an_bottom cd_bottom ct_bottom), sl_bottom⟩)
    (c_bottom : PySem.W.codeIn K cd_bottom "Ratio.bottom" = true)
    (k_bottom : PySem.W.keepIn K (.ref f_bottom) = true)
    (a_below : PySem.W.findIn K (.ref C) "is_below" = some (some (.ref f_below)))
    (i_below : PySem.W.isFn K (.ref f_below) = true)
    (l_below : K.lookup f_below = some ⟨oc_below, od_below, .func (PySem.W.fnOf "is_below" "Ratio.is_below" (defArgs s_below) (defBody s_below) (defScope s_below) .none kV_below dc_below pm_below an_below cd_below ct_below), sl_below⟩)
    (c_below : PySem.W.codeIn K cd_below "Ratio.is_below" = true)
    (k_below : PySem.W.keepIn K (.ref f_below) = true)
    (a_floor : PySem.W.findIn K (.ref C) "floor" = some (some (.ref f_floor)))
    (i_floor : PySem.W.isFn K (.ref f_floor) = true)
    (l_floor : K.lookup f_floor = some ⟨oc_floor, od_floor, .func (PySem.W.fnOf "floor" "Ratio.floor" (defArgs s_floor) (defBody s_floor) (defScope s_floor) .none kV_floor dc_floor pm_floor an_floor cd_floor ct_floor), sl_floor⟩)
    (c_floor : PySem.W.codeIn K cd_floor "Ratio.floor" = true)
    (k_floor : PySem.W.keepIn K (.ref f_floor) = true)
    (a_eq : PySem.W.findIn K (.ref C) "__eq__" = some (some (.ref f_eq)))
    (i_eq : PySem.W.isFn K (.ref f_eq) = true)
    (l_eq : K.lookup f_eq = some ⟨oc_eq, od_eq, .func (PySem.W.fnOf "__eq__" "Ratio.__eq__" (defArgs s_eq) (defBody s_eq) (defScope s_eq) .none kV_eq dc_eq pm_eq an_eq cd_eq ct_eq), sl_eq⟩)
    (c_eq : PySem.W.codeIn K cd_eq "Ratio.__eq__" = true)
    (k_eq : PySem.W.keepIn K (.ref f_eq) = true)
    (a_str : PySem.W.findIn K (.ref C) "__str__" = some (some (.ref f_str)))
    (i_str : PySem.W.isFn K (.ref f_str) = true)
    (l_str : K.lookup f_str = some ⟨oc_str, od_str, .func (PySem.W.fnOf "__str__" "Ratio.__str__" (defArgs s_str) (defBody s_str) (defScope s_str) .none kV_str dc_str pm_str an_str cd_str ct_str), sl_str⟩)
    (c_str : PySem.W.codeIn K cd_str "Ratio.__str__" = true)
    (k_str : PySem.W.keepIn K (.ref f_str) = true)
    (a_repr : PySem.W.findIn K (.ref C) "__repr__" = some (some (.ref f_repr)))
    (i_repr : PySem.W.isFn K (.ref f_repr) = true)
    (l_repr : K.lookup f_repr = some ⟨oc_repr, od_repr, .func (PySem.W.fnOf "__repr__" "Ratio.__repr__" (defArgs s_repr) (defBody s_repr) (defScope s_repr) .none kV_repr dc_repr pm_repr an_repr cd_repr ct_repr), sl_repr⟩)
    (c_repr : PySem.W.codeIn K cd_repr "Ratio.__repr__" = true)
    (k_repr : PySem.W.keepIn K (.ref f_repr) = true)
    (a_pot : PySem.W.nsIn K mainGlobals "_law_pot" = some (some (.ref f_pot)))
    (l_pot : K.lookup f_pot = some ⟨oc_pot, od_pot, .func (PySem.W.fnOf "_law_pot" "_law_pot" (defArgs s_pot) (defBody s_pot) (defScope s_pot) .none kV_pot dc_pot pm_pot an_pot cd_pot ct_pot), sl_pot⟩)
    (c_pot : PySem.W.codeIn K cd_pot "_law_pot" = true)
    (k_pot : PySem.W.keepIn K (.ref f_pot) = true)
    (a_draw : PySem.W.nsIn K mainGlobals "_law_draw" = some (some (.ref f_draw)))
    (l_draw : K.lookup f_draw = some ⟨oc_draw, od_draw, .func (PySem.W.fnOf "_law_draw" "_law_draw" (defArgs s_draw) (defBody s_draw) (defScope s_draw) .none kV_draw dc_draw pm_draw an_draw cd_draw ct_draw), sl_draw⟩)
    (c_draw : PySem.W.codeIn K cd_draw "_law_draw" = true)
    (k_draw : PySem.W.keepIn K (.ref f_draw) = true)
    (a_pick : PySem.W.nsIn K mainGlobals "_law_pick" = some (some (.ref f_pick)))
    (l_pick : K.lookup f_pick = some ⟨oc_pick, od_pick, .func (PySem.W.fnOf "_law_pick" "_law_pick" (defArgs s_pick) (defBody s_pick) (defScope s_pick) .none kV_pick dc_pick pm_pick an_pick cd_pick ct_pick), sl_pick⟩)
    (c_pick : PySem.W.codeIn K cd_pick "_law_pick" = true)
    (k_pick : PySem.W.keepIn K (.ref f_pick) = true)
    (a_integer : PySem.W.nsIn K mainGlobals "_law_integer" = some (some (.ref f_integer)))
    (l_integer : K.lookup f_integer = some ⟨oc_integer, od_integer, .func (PySem.W.fnOf "_law_integer" "_law_integer" (defArgs s_integer) (defBody s_integer) (defScope s_integer) .none kV_integer dc_integer pm_integer an_integer cd_integer ct_integer), sl_integer⟩)
    (c_integer : PySem.W.codeIn K cd_integer "_law_integer" = true)
    (k_integer : PySem.W.keepIn K (.ref f_integer) = true)
    (a_parts : PySem.W.nsIn K mainGlobals "_law_parts" = some (some (.ref f_parts)))
    (l_parts : K.lookup f_parts = some ⟨oc_parts, od_parts, .func (PySem.W.fnOf "_law_parts" "_law_parts" (defArgs s_parts) (defBody s_parts) (defScope s_parts) .none kV_parts dc_parts pm_parts an_parts cd_parts ct_parts), sl_parts⟩)
    (c_parts : PySem.W.codeIn K cd_parts "_law_parts" = true)
    (k_parts : PySem.W.keepIn K (.ref f_parts) = true)
    (a_near : PySem.W.nsIn K mainGlobals "_law_near" = some (some (.ref f_near)))
    (l_near : K.lookup f_near = some ⟨oc_near, od_near, .func (PySem.W.fnOf "_law_near" "_law_near" (defArgs s_near) (defBody s_near) (defScope s_near) .none kV_near dc_near pm_near an_near cd_near ct_near), sl_near⟩)
    (c_near : PySem.W.codeIn K cd_near "_law_near" = true)
    (k_near : PySem.W.keepIn K (.ref f_near) = true)
    (a_order : PySem.W.nsIn K mainGlobals "_law_order" = some (some (.ref f_order)))
    (l_order : K.lookup f_order = some ⟨oc_order, od_order, .func (PySem.W.fnOf "_law_order" "_law_order" (defArgs s_order) (defBody s_order) (defScope s_order) .none kV_order dc_order pm_order an_order cd_order ct_order), sl_order⟩)
    (c_order : PySem.W.codeIn K cd_order "_law_order" = true)
    (k_order : PySem.W.keepIn K (.ref f_order) = true)
    (a_pair : PySem.W.nsIn K mainGlobals "_law_pair_right" = some (some (.ref f_pair)))
    (l_pair : K.lookup f_pair = some ⟨oc_pair, od_pair, .func (PySem.W.fnOf "_law_pair_right" "_law_pair_right" (defArgs s_pair) (defBody s_pair) (defScope s_pair) .none kV_pair dc_pair pm_pair an_pair cd_pair ct_pair), sl_pair⟩)
    (c_pair : PySem.W.codeIn K cd_pair "_law_pair_right" = true)
    (k_pair : PySem.W.keepIn K (.ref f_pair) = true)
    (a_whole : PySem.W.nsIn K mainGlobals "_law_whole_right" = some (some (.ref f_whole)))
    (l_whole : K.lookup f_whole = some ⟨oc_whole, od_whole, .func (PySem.W.fnOf "_law_whole_right" "_law_whole_right" (defArgs s_whole) (defBody s_whole) (defScope s_whole) .none kV_whole dc_whole pm_whole an_whole cd_whole ct_whole), sl_whole⟩)
    (c_whole : PySem.W.codeIn K cd_whole "_law_whole_right" = true)
    (k_whole : PySem.W.keepIn K (.ref f_whole) = true)
    (a_rr : PySem.W.nsIn K mainGlobals "_law_read_right" = some (some (.ref f_rr)))
    (l_rr : K.lookup f_rr = some ⟨oc_rr, od_rr, .func (PySem.W.fnOf "_law_read_right" "_law_read_right" (defArgs s_rr) (defBody s_rr) (defScope s_rr) .none kV_rr dc_rr pm_rr an_rr cd_rr ct_rr), sl_rr⟩)
    (c_rr : PySem.W.codeIn K cd_rr "_law_read_right" = true)
    (k_rr : PySem.W.keepIn K (.ref f_rr) = true)
    (a_right : PySem.W.nsIn K mainGlobals "_law_right" = some (some (.ref f_right)))
    (l_right : K.lookup f_right = some ⟨oc_right, od_right, .func (PySem.W.fnOf "_law_right" "_law_right" (defArgs s_right) (defBody s_right) (defScope s_right) .none kV_right dc_right pm_right an_right cd_right ct_right), sl_right⟩)
    (c_right : PySem.W.codeIn K cd_right "_law_right" = true)
    (k_right : PySem.W.keepIn K (.ref f_right) = true)
    (a_law : PySem.W.nsIn K mainGlobals "law" = some (some (.ref f_law)))
    (l_law : K.lookup f_law = some ⟨oc_law, od_law, .func (PySem.W.fnOf "law" "law" (defArgs s_law) (defBody s_law) (defScope s_law) .none kV_law dc_law pm_law an_law cd_law ct_law), sl_law⟩)
    (c_law : PySem.W.codeIn K cd_law "law" = true)
    (k_law : PySem.W.keepIn K (.ref f_law) = true) :
    ∃ fd : FuncData, (∀ (s : Shared) (v : Value), BindsTo s fd ⟨[v], []⟩ [("_law_script", v)]) ∧ ∀ base : Heap, K.In base → base.Ns mainGlobals mg → FnG P w K mg base 8 fa fd ["_law_script"] (sp_law K) := by
  have B : Blt mg := ⟨PySem.W.mg_none_of X G z_len, PySem.W.mg_none_of X G z_abs, PySem.W.mg_none_of X G z_max, PySem.W.mg_none_of X G z_min, PySem.W.mg_none_of X G z_int, PySem.W.mg_none_of X G z_bool, PySem.W.mg_none_of X G z_str, PySem.W.mg_none_of X G z_repr, PySem.W.mg_none_of X G z_all, PySem.W.mg_none_of X G z_any, PySem.W.mg_none_of X G z_range, PySem.W.mg_none_of X G z_divmod, PySem.W.mg_none_of X G z_isinstance⟩
  have F_isint := Df.mk0 (st := s_isint) l_isint c_isint k_isint
  have F_isnum := Df.mk0 (st := s_isnum) l_isnum c_isnum k_isnum
  have F_wantnum := Df.mk0 (st := s_wantnum) l_wantnum c_wantnum k_wantnum
  have F_asratio := Df.mk0 (st := s_asratio) l_asratio c_asratio k_asratio
  have F_wt := Df.mk0 (st := s_wt) l_wt c_wt k_wt
  have F_rin := Df.mk0 (st := s_rin) l_rin c_rin k_rin
  have F_common := Df.mk0 (st := s_common) l_common c_common k_common
  have F_init : Df K "__init__" "Ratio.__init__" s_init [.int 1] f_init _ := ⟨⟨oc_init, od_init, .ref T0, kV_init, dc_init, pm_init, an_init, cd_init, ct_init, sl_init, rfl, l_init, c_init, .inr ⟨by simp, T0, _, [.int 1 tT], nT0, rfl, lT, rfl, .cons ⟨_, rfl⟩ .nil⟩, .inl rfl⟩, k_init⟩
  have F_read := Df.mk0 (st := s_read) l_read c_read k_read
  have S_read : SMet K C "read" f_read := ⟨g_read, ⟨m_read, p_read, r_read, d_read, a_read, e_read⟩, v_read, k_read⟩
  have F_top := Df.mk0 (st := s_top) l_top c_top k_top
  have P_top : PropOf K C "top" p_top f_top := ⟨a_top, sp_top, t_top, _, e_top⟩
  have F_bottom := Df.mk0 (st := s_bottom) l_bottom c_bottom k_bottom
  have P_bottom : PropOf K C "bottom" p_bottom f_bottom := ⟨a_bottom, sp_bottom, t_bottom, _, e_bottom⟩
  have F_below := Df.mk0 (st := s_below) l_below c_below k_below
  have F_floor := Df.mk0 (st := s_floor) l_floor c_floor k_floor
  have F_eq := Df.mk0 (st := s_eq) l_eq c_eq k_eq
  have F_str := Df.mk0 (st := s_str) l_str c_str k_str
  have F_repr := Df.mk0 (st := s_repr) l_repr c_repr k_repr
  have F_pot := Df.mk0 (st := s_pot) l_pot c_pot k_pot
  have F_draw := Df.mk0 (st := s_draw) l_draw c_draw k_draw
  have F_pick := Df.mk0 (st := s_pick) l_pick c_pick k_pick
  have F_integer := Df.mk0 (st := s_integer) l_integer c_integer k_integer
  have F_parts := Df.mk0 (st := s_parts) l_parts c_parts k_parts
  have F_near := Df.mk0 (st := s_near) l_near c_near k_near
  have F_order := Df.mk0 (st := s_order) l_order c_order k_order
  have F_pair := Df.mk0 (st := s_pair) l_pair c_pair k_pair
  have F_whole := Df.mk0 (st := s_whole) l_whole c_whole k_whole
  have F_rr := Df.mk0 (st := s_rr) l_rr c_rr k_rr
  have F_right := Df.mk0 (st := s_right) l_right c_right k_right
  have F_law := Df.mk0 (st := s_law) l_law c_law k_law
  have b_isint := F_isint.bind (ps := ["value"]) fun _ _ _ _ _ _ us hl => match us, hl with | [_], _ => rfl
  have b_isnum := F_isnum.bind (ps := ["value"]) fun _ _ _ _ _ _ us hl => match us, hl with | [_], _ => rfl
  have b_wantnum := F_wantnum.bind (ps := ["value"]) fun _ _ _ _ _ _ us hl => match us, hl with | [_], _ => rfl
  have b_asratio := F_asratio.bind (ps := ["number"]) fun _ _ _ _ _ _ us hl => match us, hl with | [_], _ => rfl
  have b_wt := F_wt.bind (ps := ["word"]) fun _ _ _ _ _ _ us hl => match us, hl with | [_], _ => rfl
  have b_rin := F_rin.bind (ps := ["text"]) fun _ _ _ _ _ _ us hl => match us, hl with | [_], _ => rfl
  have b_common := F_common.bind (ps := ["one", "other"]) fun _ _ _ _ _ _ us hl => match us, hl with | [_, _], _ => rfl
  have b_read := F_read.bind (ps := ["text"]) fun _ _ _ _ _ _ us hl => match us, hl with | [_], _ => rfl
  have b_top := F_top.bind (ps := ["self"]) fun _ _ _ _ _ _ us hl => match us, hl with | [_], _ => rfl
  have b_bottom := F_bottom.bind (ps := ["self"]) fun _ _ _ _ _ _ us hl => match us, hl with | [_], _ => rfl
  have b_below := F_below.bind (ps := ["self", "other"]) fun _ _ _ _ _ _ us hl => match us, hl with | [_, _], _ => rfl
  have b_floor := F_floor.bind (ps := ["self"]) fun _ _ _ _ _ _ us hl => match us, hl with | [_], _ => rfl
  have b_eq := F_eq.bind (ps := ["self", "other"]) fun _ _ _ _ _ _ us hl => match us, hl with | [_, _], _ => rfl
  have b_str := F_str.bind (ps := ["self"]) fun _ _ _ _ _ _ us hl => match us, hl with | [_], _ => rfl
  have b_repr := F_repr.bind (ps := ["self"]) fun _ _ _ _ _ _ us hl => match us, hl with | [_], _ => rfl
  have b_pot := F_pot.bind (ps := ["_law_script", "_law_k"]) fun _ _ _ _ _ _ us hl => match us, hl with | [_, _], _ => rfl
  have b_draw := F_draw.bind (ps := ["_law_pot_here", "_law_size"]) fun _ _ _ _ _ _ us hl => match us, hl with | [_, _], _ => rfl
  have b_pick := F_pick.bind (ps := ["_law_pot_here", "_law_some"]) fun _ _ _ _ _ _ us hl => match us, hl with | [_, _], _ => rfl
  have b_integer := F_integer.bind (ps := ["_law_pot_here", "_law_most"]) fun _ _ _ _ _ _ us hl => match us, hl with | [_, _], _ => rfl
  have b_parts := F_parts.bind (ps := ["_law_pot_here", "_law_most"]) fun _ _ _ _ _ _ us hl => match us, hl with | [_, _], _ => rfl
  have b_near := F_near.bind (ps := ["_law_pot_here", "_law_pair"]) fun _ _ _ _ _ _ us hl => match us, hl with | [_, _], _ => rfl
  have b_order := F_order.bind (ps := ["_law_one", "_law_fellow"]) fun _ _ _ _ _ _ us hl => match us, hl with | [_, _], _ => rfl
  have b_pair := F_pair.bind (ps := ["_law_one", "_law_fellow", "_law_a", "_law_b"]) fun _ _ _ _ _ _ us hl => match us, hl with | [_, _, _, _], _ => rfl
  have b_whole := F_whole.bind (ps := ["_law_one", "_law_a"]) fun _ _ _ _ _ _ us hl => match us, hl with | [_, _], _ => rfl
  have b_rr := F_rr.bind (ps := ["_law_one"]) fun _ _ _ _ _ _ us hl => match us, hl with | [_], _ => rfl
  have b_right := F_right.bind (ps := ["_law_pot_here"]) fun _ _ _ _ _ _ us hl => match us, hl with | [_], _ => rfl
  have e := hfa.symm.trans (PySem.W.mg_of X G a_law)
  cases e
  have cl : Cls K C := ⟨pg, hd, po, sa⟩
  have R : Rat K mg C := ⟨cl, nT, nB, PySem.W.mg_of X G g_C, ha, hn, htk, hm, me, ki, kb, ks, ne, fun t ht => by
    simp only [List.mem_cons, List.not_mem_nil, or_false] at ht
    rcases ht with rfl | rfl | rfl | rfl | rfl | rfl | rfl
    · exact ⟨o1_NoneType, o2_NoneType⟩
    · exact ⟨o1_bool, o2_bool⟩
    · exact ⟨o1_int, o2_int⟩
    · exact ⟨o1_str, o2_str⟩
    · exact ⟨o1_list, o2_list⟩
    · exact ⟨o1_tuple, o2_tuple⟩
    · exact ⟨o1_dict, o2_dict⟩⟩
  obtain ⟨ds1, v1, b1⟩ := init_b1 F_init
  obtain ⟨ds2, v2, b2⟩ := init_b2 F_init
  obtain ⟨gk, bk⟩ := init_k F_init
  have M : Mk K C f_init := ⟨mk, a_init, i_init, kc⟩
  refine ⟨PySem.W.fnOf "law" "law" (defArgs s_law) (defBody s_law) (defScope s_law) .none kV_law dc_law pm_law an_law cd_law ct_law, fun s v => .of_eq rfl, fun base _ _ => ?_⟩
  have C_isint : Ca P w K mg base 1 "is_integer" _ [] := ⟨_, _, _, _, ok_isint F_isint B, PySem.W.mg_of X G a_isint, k_isint, b_isint, .nil⟩
  have C_isnum : Ca P w K mg base 2 "is_number" _ [] := ⟨_, _, _, _, ok_isnum F_isnum B R C_isint, PySem.W.mg_of X G a_isnum, k_isnum, b_isnum, .nil⟩
  have C_wantnum : Ca P w K mg base 3 "want_number" _ [] := ⟨_, _, _, _, ok_wantnum F_wantnum C_isnum, PySem.W.mg_of X G a_wantnum, k_wantnum, b_wantnum, .nil⟩
  have C_common : Ca P w K mg base 1 "common_part" _ [] := ⟨_, _, _, _, ok_common F_common , PySem.W.mg_of X G a_common, k_common, b_common, .nil⟩
  have GI : FnOk P w K mg base CX0 2 f_init _ ["self", "top", "bottom"] (sp_init C) := ok_init F_init B R C_isint C_common
  have M1 : Ma P w K mg base 2 "Ratio" C (sp_init C) [.int 1] := ⟨_, _, _, _, M, GI, R.mgC, b1, v1⟩
  have M2 : Ma P w K mg base 2 "Ratio" C (sp_init C) [] := ⟨_, _, _, _, M, GI, R.mgC, b2, v2⟩
  have M3 : MaK P w K mg base 2 "Ratio" C (sp_init C) ["bottom", "top"] gBT := ⟨_, _, _, _, M, GI, R.mgC, bk⟩
  have C_asratio : Ca P w K mg base 4 "as_ratio" _ [] := ⟨_, _, _, _, ok_asratio F_asratio B R M1, PySem.W.mg_of X G a_asratio, k_asratio, b_asratio, .nil⟩
  have m_below : Meth K C "is_below" f_below := ⟨a_below, i_below, k_below⟩
  have m_floor : Meth K C "floor" f_floor := ⟨a_floor, i_floor, k_floor⟩
  have GB : FnOk P w K mg base CX0 5 f_below _ ["self", "other"] (sp_below C) := ok_below F_below R C_wantnum C_asratio
  have cB : Me P w K mg base 5 C "is_below" (sp_below C) [] := ⟨_, _, _, _, cl, m_below, GB, b_below, .nil⟩
  have cBk : MeK P w K mg base 5 C "is_below" (sp_below C) ["other"] (fun vs zs => vs ++ zs) := ⟨_, _, _, _, cl, m_below, GB, F_below.kbn (ps := ["self", "other"]) 1 ["other"] (fun vs zs => vs ++ zs) (fun r1 r2 => r1.append r2) fun _ _ _ _ _ _ us ws h1 h2 => match us, ws, h1, h2 with | [_], [_], _, _ => rfl⟩
  have cF : Me P w K mg base 1 C "floor" (sp_floor C) [] := ⟨_, _, _, _, cl, m_floor, ok_floor F_floor R, b_floor, .nil⟩
  have cEq : Op2 P w K mg base 1 C "__eq__" (sp_eq K C) := ⟨_, _, _, ok_eq F_eq B R, b_eq, a_eq, i_eq⟩
  have cStr : Op2 P w K mg base 1 C "__str__" (sp_txt C rstr) := ⟨_, _, _, ok_str F_str B R, b_str, a_str, i_str⟩
  have cRepr : Op2 P w K mg base 1 C "__repr__" (sp_txt C rrepr) := ⟨_, _, _, ok_repr F_repr R, b_repr, a_repr, i_repr⟩
  have cTop : Pr P w K mg base 1 C "top" (sp_get C fun t _ => t) := ⟨_, _, _, _, cl, P_top, ok_top F_top R, b_top⟩
  have cBot : Pr P w K mg base 1 C "bottom" (sp_get C fun _ b => b) := ⟨_, _, _, _, cl, P_bottom, ok_bottom F_bottom R, b_bottom⟩
  have C_wt : Ca P w K mg base 1 "is_whole_text" _ [] := ⟨_, _, _, _, ok_wt F_wt B ⟨_, PySem.W.mg_of X G gD⟩, PySem.W.mg_of X G a_wt, k_wt, b_wt, .nil⟩
  have C_rin : Ca P w K mg base 4 "ratio_in" _ [] := ⟨_, _, _, _, ok_rin F_rin B R C_wt M2 cStr, PySem.W.mg_of X G a_rin, k_rin, b_rin, .nil⟩
  have GR : FnOk P w K mg base CX0 5 f_read _ ["text"] (sp_rin C) := ok_read F_read C_rin
  have cRd : Sm P w K mg base 5 C "read" (sp_rin C) := ⟨_, _, _, S_read, GR, b_read⟩
  have cRdk : SmK P w K mg base 5 C "read" (sp_rin C) ["text"] (fun vs zs => vs ++ zs) := ⟨_, _, _, _, S_read, GR, F_read.kbn (ps := ["text"]) 0 ["text"] (fun vs zs => vs ++ zs) (fun r1 r2 => r1.append r2) fun _ _ _ _ _ _ us ws h1 h2 => match us, ws, h1, h2 with | [], [_], _, _ => rfl⟩
  have C_pot : Ca P w K mg base 1 "_law_pot" _ [] := ⟨_, _, _, _, ok_pot F_pot B, PySem.W.mg_of X G a_pot, k_pot, b_pot, .nil⟩
  have C_draw : Ca P w K mg base 1 "_law_draw" _ [] := ⟨_, _, _, _, ok_draw F_draw B, PySem.W.mg_of X G a_draw, k_draw, b_draw, .nil⟩
  have C_pick : Ca P w K mg base 2 "_law_pick" _ [] := ⟨_, _, _, _, ok_pick F_pick B C_draw, PySem.W.mg_of X G a_pick, k_pick, b_pick, .nil⟩
  have C_integer : Ca P w K mg base 3 "_law_integer" _ [] := ⟨_, _, _, _, ok_integer F_integer C_draw C_pick, PySem.W.mg_of X G a_integer, k_integer, b_integer, .nil⟩
  have C_parts : Ca P w K mg base 4 "_law_parts" _ [] := ⟨_, _, _, _, ok_parts F_parts C_integer C_pick, PySem.W.mg_of X G a_parts, k_parts, b_parts, .nil⟩
  have C_near : Ca P w K mg base 5 "_law_near" _ [] := ⟨_, _, _, _, ok_near F_near C_draw C_pick C_parts, PySem.W.mg_of X G a_near, k_near, b_near, .nil⟩
  have C_order : Ca P w K mg base 1 "_law_order" _ [] := ⟨_, _, _, _, ok_order F_order B, PySem.W.mg_of X G a_order, k_order, b_order, .nil⟩
  have C_rr : Ca P w K mg base 6 "_law_read_right" _ [] := ⟨_, _, _, _, ok_rr F_rr B R cRd cRdk cTop cBot cStr cRepr cEq, PySem.W.mg_of X G a_rr, k_rr, b_rr, .nil⟩
  have C_pair : Cg P w K mg base 6 "_law_pair_right" ["_law_one", "_law_fellow", "_law_a", "_law_b"] _ [] := ⟨_, _, _, ok_pair F_pair B R C_order cB cEq, PySem.W.mg_of X G a_pair, k_pair, b_pair, .nil⟩
  have C_whole : Cg P w K mg base 6 "_law_whole_right" ["_law_one", "_law_a"] _ [] := ⟨_, _, _, ok_whole F_whole B R C_order cB cBk cF M1 cEq, PySem.W.mg_of X G a_whole, k_whole, b_whole, .nil⟩
  have C_right : Cg P w K mg base 7 "_law_right" ["_law_pot_here"] _ [] := ⟨_, _, _, ok_right F_right B R C_parts C_near M2 M3 cRepr C_pair C_whole C_rr, PySem.W.mg_of X G a_right, k_right, b_right, .nil⟩
  exact ok_law F_law B C_pot C_right
theorem walk {l : PySem.W.OpenLaw} {q : Program} {loose : List Str} {XP : (Str → Option Value) → Heap → Prop} {YP : World → Heap → Prop} {d : DefRec} {K : Params → PySem.W.Frag} (hn : l.most = some 63) (hdf : d.params.defaults = [])
    (hY : ∀ (w : World) (h : Heap), YP w h → (K w.params).In h)
    (F : ∀ (w : World) (mg : Str → Option Value) (fa : Addr) (h : Heap), (K w.params).In h → h.Ns mainGlobals mg → mg d.name = some (.ref fa) →
      ∃ fd : FuncData, (∀ (s : Shared) (u : Value), BindsTo s fd ⟨[u], []⟩ [("_law_script", u)]) ∧ ∀ base : Heap, (K w.params).In base → base.Ns mainGlobals mg → FnG l.prog w (K w.params) mg base 8 fa fd ["_law_script"] (sp_law (K w.params))) :
    PySem.W.WalkO q loose XP YP l.row.toRowW d [] (fun f vs => PySem.call f vs) :=
  walk_g (n := 63) (k := 8) (sp := sp_law) hn (by decide) hdf ⟨rfl, by decide, by decide⟩ hY F fun _ _ a ns hl hS => ⟨a, ns, rfl, hS, hl, fun _ => rfl⟩
end T
open PySem PySem.W PyProof.Rows
set_option Elab.async false
set_option maxRecDepth 100000
set_option maxHeartbeats 0
open_top hd for PySem.Challenge.rw_movecells_k12_ratios_compared_and_read
set_option Elab.async false
open PySem PySem.W PyProof.Rows
set_option maxRecDepth 100000 in
set_option maxHeartbeats 0 in
theorem PySem.Challenge.cw_movecells_k12_ratios_compared_and_read_holds : PySem.Challenge.rw_movecells_k12_ratios_compared_and_read.Holds := by
  refine hd ?_
  k_fill
  refine T.walk (l := PySem.Challenge.rw_movecells_k12_ratios_compared_and_read) rfl rfl (fun w h Y => PySem.W.kIn_of Y) ?F
  case F =>
    intro w mg fa h KX G hmg
    refine' T.all_mk KX G hmg ?g_C ?pg ?hd ?po ?sa ?mk ?kc ?nT ?nB ?ha ?hn ?htk ?hm ?me ?ki ?kb ?ks ?ne ?o1_NoneType ?o2_NoneType ?o1_bool ?o2_bool ?o1_int ?o2_int ?o1_str ?o2_str ?o1_list ?o2_list ?o1_tuple ?o2_tuple ?o1_dict ?o2_dict ?z_len ?z_abs ?z_max ?z_min ?z_int ?z_bool ?z_str ?z_repr ?z_all ?z_any ?z_range ?z_divmod ?z_isinstance ?gD ?a_isint ?l_isint ?c_isint ?k_isint ?a_isnum ?l_isnum ?c_isnum ?k_isnum ?a_wantnum ?l_wantnum ?c_wantnum ?k_wantnum ?a_asratio ?l_asratio ?c_asratio ?k_asratio ?a_wt ?l_wt ?c_wt ?k_wt ?a_rin ?l_rin ?c_rin ?k_rin ?a_common ?l_common ?c_common ?k_common ?a_init ?i_init ?l_init ?c_init ?k_init ?lT ?t_read ?g_read ?d_read ?a_read ?e_read ?v_read ?l_read ?c_read ?k_read ?a_top ?sp_top ?t_top ?e_top ?l_top ?c_top ?k_top ?a_bottom ?sp_bottom ?t_bottom ?e_bottom ?l_bottom ?c_bottom ?k_bottom ?a_below ?i_below ?l_below ?c_below ?k_below ?a_floor ?i_floor ?l_floor ?c_floor ?k_floor ?a_eq ?i_eq ?l_eq ?c_eq ?k_eq ?a_str ?i_str ?l_str ?c_str ?k_str ?a_repr ?i_repr ?l_repr ?c_repr ?k_repr ?a_pot ?l_pot ?c_pot ?k_pot ?a_draw ?l_draw ?c_draw ?k_draw ?a_pick ?l_pick ?c_pick ?k_pick ?a_integer ?l_integer ?c_integer ?k_integer ?a_parts ?l_parts ?c_parts ?k_parts ?a_near ?l_near ?c_near ?k_near ?a_order ?l_order ?c_order ?k_order ?a_pair ?l_pair ?c_pair ?k_pair ?a_whole ?l_whole ?c_whole ?k_whole ?a_rr ?l_rr ?c_rr ?k_rr ?a_right ?l_right ?c_right ?k_right ?a_law ?l_law ?c_law ?k_law
    (case g_C => k_is)
    (case pg => k_is)
    (case hd => k_is)
    (case po => k_is)
    (case sa => k_is)
    (case mk => k_is)
    (case kc => k_is)
    (case nT => k_is)
    (case nB => k_is)
    (case ha => k_is)
    (case hn => k_is)
    (case htk => k_is)
    (case hm => k_is)
    (case me => kit_is)
    (case ki => kit_is)
    (case kb => kit_is)
    (case ks => kit_is)
    (case ne => k_is)
    (case o1_NoneType => kit_is)
    (case o2_NoneType => k_is)
    (case o1_bool => kit_is)
    (case o2_bool => k_is)
    (case o1_int => kit_is)
    (case o2_int => k_is)
    (case o1_str => kit_is)
    (case o2_str => k_is)
    (case o1_list => kit_is)
    (case o2_list => k_is)
    (case o1_tuple => kit_is)
    (case o2_tuple => k_is)
    (case o1_dict => kit_is)
    (case o2_dict => k_is)
    (case z_len => k_is)
    (case z_abs => k_is)
    (case z_max => k_is)
    (case z_min => k_is)
    (case z_int => k_is)
    (case z_bool => k_is)
    (case z_str => k_is)
    (case z_repr => k_is)
    (case z_all => k_is)
    (case z_any => k_is)
    (case z_range => k_is)
    (case z_divmod => k_is)
    (case z_isinstance => k_is)
    (case gD => k_is)
    (case a_isint => k_is)
    (case l_isint => k_is)
    (case c_isint => k_is)
    (case k_isint => k_is)
    (case a_isnum => k_is)
    (case l_isnum => k_is)
    (case c_isnum => k_is)
    (case k_isnum => k_is)
    (case a_wantnum => k_is)
    (case l_wantnum => k_is)
    (case c_wantnum => k_is)
    (case k_wantnum => k_is)
    (case a_asratio => k_is)
    (case l_asratio => k_is)
    (case c_asratio => k_is)
    (case k_asratio => k_is)
    (case a_wt => k_is)
    (case l_wt => k_is)
    (case c_wt => k_is)
    (case k_wt => k_is)
    (case a_rin => k_is)
    (case l_rin => k_is)
    (case c_rin => k_is)
    (case k_rin => k_is)
    (case a_common => k_is)
    (case l_common => k_is)
    (case c_common => k_is)
    (case k_common => k_is)
    (case a_init => k_is)
    (case i_init => k_is)
    (case l_init => k_is)
    (case c_init => k_is)
    (case k_init => k_is)
    (case lT => k_is)
    (case t_read => k_is)
    (case g_read => k_is)
    (case d_read => k_is)
    (case a_read => k_is)
    (case e_read => k_is)
    (case v_read => rfl)
    (case l_read => k_is)
    (case c_read => k_is)
    (case k_read => k_is)
    (case a_top => k_is)
    (case sp_top => k_is)
    (case t_top => k_is)
    (case e_top => k_is)
    (case l_top => k_is)
    (case c_top => k_is)
    (case k_top => k_is)
    (case a_bottom => k_is)
    (case sp_bottom => k_is)
    (case t_bottom => k_is)
    (case e_bottom => k_is)
    (case l_bottom => k_is)
    (case c_bottom => k_is)
    (case k_bottom => k_is)
    (case a_below => k_is)
    (case i_below => k_is)
    (case l_below => k_is)
    (case c_below => k_is)
    (case k_below => k_is)
    (case a_floor => k_is)
    (case i_floor => k_is)
    (case l_floor => k_is)
    (case c_floor => k_is)
    (case k_floor => k_is)
    (case a_eq => k_is)
    (case i_eq => k_is)
    (case l_eq => k_is)
    (case c_eq => k_is)
    (case k_eq => k_is)
    (case a_str => k_is)
    (case i_str => k_is)
    (case l_str => k_is)
    (case c_str => k_is)
    (case k_str => k_is)
    (case a_repr => k_is)
    (case i_repr => k_is)
    (case l_repr => k_is)
    (case c_repr => k_is)
    (case k_repr => k_is)
    (case a_pot => k_is)
    (case l_pot => k_is)
    (case c_pot => k_is)
    (case k_pot => k_is)
    (case a_draw => k_is)
    (case l_draw => k_is)
    (case c_draw => k_is)
    (case k_draw => k_is)
    (case a_pick => k_is)
    (case l_pick => k_is)
    (case c_pick => k_is)
    (case k_pick => k_is)
    (case a_integer => k_is)
    (case l_integer => k_is)
    (case c_integer => k_is)
    (case k_integer => k_is)
    (case a_parts => k_is)
    (case l_parts => k_is)
    (case c_parts => k_is)
    (case k_parts => k_is)
    (case a_near => k_is)
    (case l_near => k_is)
    (case c_near => k_is)
    (case k_near => k_is)
    (case a_order => k_is)
    (case l_order => k_is)
    (case c_order => k_is)
    (case k_order => k_is)
    (case a_pair => k_is)
    (case l_pair => k_is)
    (case c_pair => k_is)
    (case k_pair => k_is)
    (case a_whole => k_is)
    (case l_whole => k_is)
    (case c_whole => k_is)
    (case k_whole => k_is)
    (case a_rr => k_is)
    (case l_rr => k_is)
    (case c_rr => k_is)
    (case k_rr => k_is)
    (case a_right => k_is)
    (case l_right => k_is)
    (case c_right => k_is)
    (case k_right => k_is)
    (case a_law => k_is)
    (case l_law => k_is)
    (case c_law => k_is)
    (case k_law => k_is)
