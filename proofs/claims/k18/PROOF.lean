import PyProof.Rows.All
import Wide.All
import OpenK.AllK
import Wide.FinOn
import KE.KStateDown
import KE.KIsAll
import HandS.Head0
import HandS.Head1
import HandS.Head2
import HandS.Defaults
import HandS.Words
import HandS.HeadHook1
import HandS.HeadHook2
import KE.KExcInit
import HandS.ExcField
import HandS.ExcIs
import HandS.ForMost
import HandS.Wide
import HandS.WideBits
import HandS.IsInst
import HandS.Property
import HandS.ClsMeth
import HandS.FStr
import HandS.MakeKw
import HandS.Flow
import HandS.RaiseMore
import PyProof.ReprRoads
import PyProof.InstEq
import KE.KCallOwn
import KE.KFmtOwn
import HandS.SlotsOwn
import PyProof.ReprNest
import PyProof.StrHeap
import HandS.MakeKwOnly
import HandS.Walk
import HandS.Zip
import HandS.Style
import HandS.Star
import KE.GoesEnum
import HandS.TupAny
import HandS.Strs
import KE.KRevSl
import KE.KOpsOwn
import HandS.NoneIn
import HandS.Exc
import HandS.ExcInit
import HandS.ExcOwn
import HandS.CallSlots
import HandS.TryMany
import KE.KExcIs
import HandS.SortRule
import HandS.TupSets
import HandS.Conv
import HandS.CallLocal
import HandS.List
import PyProof.SeqIndex
import HandS.ExcValue
import HandS.Text
import PyProof.ReprDict
import PyProof.ReprLen
import PySem.Challenge.RW_movecells_k18_errors_made
set_option Elab.async false
set_option maxRecDepth 100000
set_option maxHeartbeats 4000000
/-! mvhd0: the head by facts (it stands first in the joined text, so that the top's run has all the memory): the top's run in the kernel over the heap as a tree, the facts each a Bool of what the top has laid. -/
namespace Mv
open PySem PySem.Spec PyProof.Rows L2
/-! ### forced ahead of use -/
def fcA {β : Type} : List Addr → (List Addr → β) → β
  | [], k => k []
  | a :: r, k => HandSHeadRun.frNat a fun a => fcA r fun r => k (a :: r)
theorem fcA_eq {β : Type} : ∀ (l : List Addr) (k : List Addr → β), fcA l k = k l
  | [], _ => rfl
  | a :: r, k => by
    show HandSHeadRun.frNat a (fun a => fcA r fun r => k (a :: r)) = _
    rw [HandSHeadRun.frNat_eq, fcA_eq r]
def fcO {β : Type} (o : Obj) (k : Obj → β) : β := match o with
  | ⟨c, d, dt, sl⟩ => k ⟨c, d, dt, sl⟩
theorem fcO_eq {β : Type} (o : Obj) (k : Obj → β) : fcO o k = k o := by
  obtain ⟨c, d, dt, sl⟩ := o
  rfl
def fcK {β : Type} : PySem.W.Frag → (PySem.W.Frag → β) → β
  | [], k => k []
  | (a, o) :: r, k => fcO o fun o => fcK r fun r => k ((a, o) :: r)
theorem fcK_eq {β : Type} : ∀ (l : PySem.W.Frag) (k : PySem.W.Frag → β), fcK l k = k l
  | [], _ => rfl
  | (a, o) :: r, k => by
    show fcO o (fun o => fcK r fun r => k ((a, o) :: r)) = _
    rw [fcO_eq, fcK_eq r]
/-! ### what the top has laid -/
/-- objects that nothing here looks at -/
def dull : Obj → Bool
  | ⟨.none, none, .fields vs, _⟩ => vs.isEmpty
  | _ => false
def partG (g : Addr → Option Obj) : List Addr → PySem.W.Frag
  | [] => []
  | a :: r => match g a with
    | some o => (match dull o with
      | true => partG g r
      | false => (a, o) :: partG g r)
    | none => partG g r
theorem partG_at {g : Addr → Option Obj} {a : Addr} {o : Obj} : ∀ as : List Addr, (partG g as).lookup a = some o → g a = some o
  | [], e => nomatch (show (none : Option Obj) = some o from e)
  | b :: r, e => by
    unfold partG at e
    cases hb : g b with
    | none =>
      rw [hb] at e
      exact partG_at r e
    | some ob =>
      rw [hb] at e
      dsimp only at e
      cases hd : dull ob with
      | true =>
        rw [hd] at e
        exact partG_at r e
      | false =>
        rw [hd] at e
        have e2 : (match a == b with | true => some ob | false => (partG g r).lookup a) = some o := e
        cases q : (a == b) with
        | true =>
          rw [q] at e2
          cases e2
          rw [beq_iff_eq.mp q, hb]
        | false =>
          rw [q] at e2
          exact partG_at r e2
def upTo : Nat → Nat → List Addr
  | 0, _ => []
  | m + 1, n => n :: upTo m (n + 1)
/-! ### defs -/
structure DM where
  ad : PySem.W.Frag → Addr
  name : Str
  qual : Str
  st : Stmt
  dv : List He.Dv := []
abbrev SeeT : Type := Option (Str × Str × Arguments × FuncBody × Scope × Addr × List (Str × Addr) × Addr)
def DM.see (K : PySem.W.Frag) (d : DM) : SeeT := match K.lookup (d.ad K) with
  | some ⟨_, _, .func u, _⟩ => some (u.name, u.qualname, u.params, u.body, u.scope, u.globals, u.closure, u.builtins)
  | _ => none
def DM.val (d : DM) : SeeT := some (d.name, d.qual, defArgs d.st, .stmts (defBody d.st), defScope d.st, mainGlobals, [], builtinsNs)
def DM.dvs (K : PySem.W.Frag) (d : DM) : List V := d.dv.map (He.Dv.v K)
def DM.ok (K : PySem.W.Frag) (d : DM) : Bool := PySem.W.keepIn K (.ref (d.ad K)) && (match K.lookup (d.ad K) with
  | some ⟨_, _, .func u, _⟩ => PySem.W.codeIn K u.code d.qual && He.dflB K u.defaults (d.dvs K)
  | _ => false)
/-! ### the Hook -/
abbrev AlM : Type := Bool × List SeeT
def obK (fa : List (PySem.W.Frag → Bool)) (fn : List DM) (K : PySem.W.Frag) : AlM := ((fa.all fun f => f K) && fn.all fun d => d.ok K, fn.map fun d => d.see K)
def vaM (fn : List DM) : AlM := (true, fn.map DM.val)
def SaM (fa : List (PySem.W.Frag → Bool)) (fn : List DM) (K : PySem.W.Frag) : Prop := obK fa fn K = vaM fn
def obM (n0 : Nat) (fa : List (PySem.W.Frag → Bool)) (fn : List DM) (n : Nat) (g : Addr → Option Obj) : AlM :=
  fcA (mainGlobals :: cStatics :: (upTo (n - n0) n0).reverse) fun as => fcK (partG g as) fun K => obK fa fn K
theorem obM_eq {n0 : Nat} {fa : List (PySem.W.Frag → Bool)} {fn : List DM} {n : Nat} {g : Addr → Option Obj} : obM n0 fa fn n g = obK fa fn (partG g (mainGlobals :: cStatics :: (upTo (n - n0) n0).reverse)) := by
  unfold obM
  rw [fcA_eq, fcK_eq]
def hookM (n0 : Nat) (fa : List (PySem.W.Frag → Bool)) (fn : List DM) : PySem.W.Hook where
  α := AlM
  obs := fun s => obM n0 fa fn s.heap.objs.size s.heap.get?
  val := fun _ => vaM fn
  says := fun _ h => ∃ K : PySem.W.Frag, K.In h ∧ SaM fa fn K
  of := fun _ _ e => ⟨_, fun _ _ => partG_at _, obM_eq.symm.trans e⟩
  keeps := fun _ _ _ ⟨K, hK, c⟩ k => ⟨K, PySem.W.Frag.In.keeps hK k, c⟩
def seeM (n0 : Nat) (fa : List (PySem.W.Frag → Bool)) (fn : List DM) (s : PySem.W.SharedT) : AlM := HandSHeadRun.frNat s.n fun n => obM n0 fa fn n (HandSHeadRun.getT s)
theorem seeM_eq {n0 : Nat} {fa : List (PySem.W.Frag → Bool)} {fn : List DM} (s : PySem.W.SharedT) : seeM n0 fa fn s = (hookM n0 fa fn).obs s.abs := by
  unfold seeM
  rw [HandSHeadRun.frNat_eq]
  have e : HandSHeadRun.getT s = s.abs.heap.get? := funext (HandSHeadRun.getT_eq s)
  have n : s.abs.heap.objs.size = s.n := PySem.W.absHeap_size _ _ _
  show _ = obM n0 fa fn s.abs.heap.objs.size s.abs.heap.get?
  rw [e, n]
/-! ### two runs of the top, each with a part of the facts (one alone wants more memory) -/
theorem obK_app {fa fb : List (PySem.W.Frag → Bool)} {da db : List DM} {K : PySem.W.Frag} (h1 : obK fa da K = vaM da) (h2 : obK fb db K = vaM db) : obK (fa ++ fb) (da ++ db) K = vaM (da ++ db) := by
  have a1 : ((fa.all fun f => f K) && da.all fun d => d.ok K) = true := congrArg (fun z : AlM => z.1) h1
  have a2 : ((fb.all fun f => f K) && db.all fun d => d.ok K) = true := congrArg (fun z : AlM => z.1) h2
  have b1 : (da.map fun d => d.see K) = da.map DM.val := congrArg (fun z : AlM => z.2) h1
  have b2 : (db.map fun d => d.see K) = db.map DM.val := congrArg (fun z : AlM => z.2) h2
  obtain ⟨c1, d1⟩ := Bool.and_eq_true_iff.mp a1
  obtain ⟨c2, d2⟩ := Bool.and_eq_true_iff.mp a2
  unfold obK vaM
  rw [List.all_append, List.all_append, c1, c2, d1, d2, List.map_append, b1, b2, List.map_append]
  rfl
theorem runs_two {r : PySem.W.OpenRow} {q : Program} {fa fb : List (PySem.W.Frag → Bool)} {da db : List DM} {M : Nat} {loose : List Str} {w : World} (h1 : HandSHeadRun.RunEq r q (hookM 0 fa da) (seeM 0 fa da) M loose w) (h2 : HandSHeadRun.RunEq r q (hookM 0 fb db) (seeM 0 fb db) M loose w) : HandSHeadRun.RunEq r q (hookM 0 (fa ++ fb) (da ++ db)) (seeM 0 (fa ++ fb) (da ++ db)) M loose w := by
  intro os
  have e1 := h1 os
  have e2 := h2 os
  revert e1 e2
  generalize HandSHeadRun.endF (HandSHeadRun.stepQ (HandSHeadRun.denQ HandSHeadRun.tabQ) r.prog w) M r.prog w os = x
  cases x with
  | none => exact fun e1 _ => nomatch e1
  | some s =>
    intro e1 e2
    have p1 := Option.some.inj e1
    have p2 := Option.some.inj e2
    have o1 : seeM 0 fa da s = vaM da := congrArg (fun z => z.2.2) p1
    have o2 : seeM 0 fb db s = vaM db := congrArg (fun z => z.2.2) p2
    have o3 : seeM 0 (fa ++ fb) (da ++ db) s = vaM (da ++ db) := by
      unfold seeM at o1 o2 ⊢
      rw [HandSHeadRun.frNat_eq, obM_eq] at o1 o2 ⊢
      exact obK_app o1 o2
    exact congrArg some (Prod.ext (congrArg (fun z => z.1) p1) (Prod.ext (congrArg (fun z => z.2.1) p1) o3))
theorem SaM.fact {fa : List (PySem.W.Frag → Bool)} {fn : List DM} {K : PySem.W.Frag} (c : SaM fa fn K) (i : Nat) {f : PySem.W.Frag → Bool} (h : fa[i]? = some f) : f K = true := by
  have c1 : ((fa.all fun f => f K) && fn.all fun d => d.ok K) = true := congrArg (fun z : AlM => z.1) c
  exact List.all_eq_true.mp (Bool.and_eq_true_iff.mp c1).1 f (List.mem_of_getElem? h)
/-! ### readings of what was found -/
/-- a class's own property: its getter -/
def recAd (K : PySem.W.Frag) (p : Addr) (T : String) : Addr := match PySem.W.recIn K p T with
  | some (.ref a :: _) => a
  | _ => 0
def recB (K : PySem.W.Frag) (p : Addr) (T : String) (f : Addr) : Bool := match PySem.W.recIn K p T with
  | some (.ref a :: _) => decide (a = f)
  | _ => false
theorem recB_ok {K : PySem.W.Frag} {p : Addr} {T : String} {f : Addr} (h : recB K p T f = true) : ∃ r, PySem.W.recIn K p T = some (.ref f :: r) := by
  unfold recB at h
  split at h
  · rename_i a r e
    rw [e, of_decide_eq_true h]
    exact ⟨_, rfl⟩
  · cases h
def strB (o : Option (Option Value)) (z : Str) : Bool := match o with
  | some (some (.str y _)) => decide (y = z)
  | _ => false
theorem strB_ok {o : Option (Option Value)} {z : Str} (h : strB o z = true) : ∃ t, o = some (some (.str z t)) := by
  unfold strB at h
  split at h
  · rw [of_decide_eq_true h]
    exact ⟨_, rfl⟩
  · cases h
def intB (o : Option (Option Value)) (i : Int) : Bool := match o with
  | some (some (.int j _)) => decide (j = i)
  | _ => false
theorem intB_ok {o : Option (Option Value)} {i : Int} (h : intB o i = true) : ∃ t, o = some (some (.int i t)) := by
  unfold intB at h
  split at h
  · rw [of_decide_eq_true h]
    exact ⟨_, rfl⟩
  · cases h
def cvB (o : Option PySem.W.CFound) (i : Int) : Bool := match o with
  | some (.val (.int j _)) => decide (j = i)
  | _ => false
theorem cvB_ok {o : Option PySem.W.CFound} {i : Int} (h : cvB o i = true) : ∃ t, o = some (.val (.int i t)) := by
  unfold cvB at h
  split at h
  · rw [of_decide_eq_true h]
    exact ⟨_, rfl⟩
  · cases h
/-- found at a class: a static method, a class method -/
def sgAd (o : Option PySem.W.CFound) : Addr := match o with
  | some (.get _ (.ref p) _ _) => p
  | _ => 0
def sgB (o : Option PySem.W.CFound) (g : String) (p : Addr) (x c : Value) : Bool := match o with
  | some (.get (.builtin h) (.ref q) y d) => decide (h = g) && (decide (q = p) && (decide (y = x) && decide (d = c)))
  | _ => false
theorem sgB_ok {o : Option PySem.W.CFound} {g : String} {p : Addr} {x c : Value} (h : sgB o g p x c = true) : o = some (.get (.builtin g) (.ref p) x c) := by
  unfold sgB at h
  split at h
  · have ⟨h1, h⟩ := Bool.and_eq_true_iff.mp h
    have ⟨h2, h⟩ := Bool.and_eq_true_iff.mp h
    have ⟨h3, h4⟩ := Bool.and_eq_true_iff.mp h
    rw [of_decide_eq_true h1, of_decide_eq_true h2, of_decide_eq_true h3, of_decide_eq_true h4]
  · cases h
/-- a tuple of two texts -/
def tup2B (o : Option Obj) (x y : Str) : Bool := match o with
  | some ⟨.type c, none, .seq its _, _⟩ => decide (c = "tuple") && (match its.toList with
    | [.str a _, .str b _] => decide (a = x) && decide (b = y)
    | _ => false)
  | _ => false
theorem tup2B_ok {o : Option Obj} {x y : Str} (h : tup2B o x y = true) : ∃ t u n s, o = some ⟨.type "tuple", none, .seq #[.str x t, .str y u] n, s⟩ := by
  unfold tup2B at h
  split at h
  · rename_i c its n s
    have ⟨h1, h2⟩ := Bool.and_eq_true_iff.mp h
    split at h2
    · rename_i a t b u e
      have ⟨h3, h4⟩ := Bool.and_eq_true_iff.mp h2
      have e2 : its = #[.str a t, .str b u] := by
        apply Array.toList_inj.mp
        rw [e]
      rw [of_decide_eq_true h1, e2, of_decide_eq_true h3, of_decide_eq_true h4]
      exact ⟨_, _, _, _, rfl⟩
    · cases h2
  · cases h
/-- the empty tuple -/
def tup0B (o : Option Obj) : Bool := match o with
  | some ⟨.type c, none, .seq its _, _⟩ => decide (c = "tuple") && its.toList.isEmpty
  | _ => false
theorem tup0B_ok {o : Option Obj} (h : tup0B o = true) : ∃ n s, o = some ⟨.type "tuple", none, .seq #[] n, s⟩ := by
  unfold tup0B at h
  split at h
  · rename_i c its n s
    have ⟨h1, h2⟩ := Bool.and_eq_true_iff.mp h
    have e2 : its = #[] := by
      apply Array.toList_inj.mp
      rw [List.isEmpty_iff.mp h2]
    rw [of_decide_eq_true h1, e2]
    exact ⟨_, _, rfl⟩
  · cases h
/-- a keyword-only default -/
def kwTe (K : PySem.W.Frag) (f : Addr) (n : Str) : Addr := match K.lookup f with
  | some ⟨_, _, .func fd, _⟩ => (match fd.kwdefaults with
    | .ref D => (match PySem.W.nsIn K D n with
      | some (some (.ref a)) => a
      | _ => 0)
    | _ => 0)
  | _ => 0
def kwAtB (K : PySem.W.Frag) (f : Addr) (n : Str) (a : Addr) : Bool := match K.lookup f with
  | some ⟨_, _, .func fd, _⟩ => He.kwdB K fd.kwdefaults [(n, .ref a)]
  | _ => false
/-- a module's tuple of pairs of numbers -/
def prB (K : PySem.W.Frag) (v : Value) (m : Int × Int) : Bool := match v with
  | .ref a => (match K.lookup a with
    | some ⟨.type c, none, .seq its _, _⟩ => decide (c = "tuple") && (match its.toList with
      | [.int x _, .int y _] => decide (x = m.1) && decide (y = m.2)
      | _ => false)
    | _ => false)
  | _ => false
def prsB (K : PySem.W.Frag) : List Value → List (Int × Int) → Bool
  | [], [] => true
  | v :: vs, m :: ms => prB K v m && prsB K vs ms
  | _, _ => false
def mvsB (K : PySem.W.Frag) (a : Addr) (ms : List (Int × Int)) : Bool := match K.lookup a with
  | some ⟨.type c, none, .seq its _, _⟩ => decide (c = "tuple") && (Nat.ble its.size sizeLine && prsB K its.toList ms)
  | _ => false
/-- a tuple of texts -/
def strVB : List Value → List Str → Bool
  | [], [] => true
  | .str x _ :: vs, s :: ss => decide (x = s) && strVB vs ss
  | _, _ => false
def strsTB (o : Option Obj) (ss : List Str) : Bool := match o with
  | some ⟨.type c, none, .seq its _, _⟩ => decide (c = "tuple") && (Nat.ble its.size sizeLine && strVB its.toList ss)
  | _ => false
/-- a tuple of ints -/
def intVB : List Value → List Int → Bool
  | [], [] => true
  | .int x _ :: vs, s :: ss => decide (x = s) && intVB vs ss
  | _, _ => false
def intsTB (o : Option Obj) (ss : List Int) : Bool := match o with
  | some ⟨.type c, none, .seq its _, _⟩ => decide (c = "tuple") && (Nat.ble its.size sizeLine && intVB its.toList ss)
  | _ => false
/-- a class's constant, a number, as its instances find it -/
def conB (K : PySem.W.Frag) (C : Addr) (f : Str) (i : Int) : Bool := match PySem.W.findIn K (.ref C) f with
  | some (some (.int j t)) => decide (j = i) && decide (PySem.W.specialIn K (.int j t) "__get__" = some none)
  | _ => false
end Mv
set_option Elab.async false
set_option maxRecDepth 100000
set_option maxHeartbeats 4000000
/-! mvhe0: the facts about own errors, each a Bool of what the top has laid. -/
namespace Mv
open PySem PySem.Spec PyProof.Rows L2
def eVE : List Value := [.type "ValueError", .type "Exception", .type "BaseException", .type "object"]
def eRE : List Value := [.type "RuntimeError", .type "Exception", .type "BaseException", .type "object"]
def eLE : List Value := [.type "LookupError", .type "Exception", .type "BaseException", .type "object"]
def eAE : List Value := [.type "ArithmeticError", .type "Exception", .type "BaseException", .type "object"]
def oexIn (K : PySem.W.Frag) (C : Addr) (bm : List Value) (n : String) : Bool := PySem.W.excInitIn K C bm n && PySem.W.excOver K C bm
def oexB (K : PySem.W.Frag) (C : Addr) : Bool := (oexIn K C eVE "ValueError.__new__" || (oexIn K C eRE "RuntimeError.__new__" || (oexIn K C eLE "LookupError.__new__" || oexIn K C eAE "ArithmeticError.__new__"))) &&
  (PySem.W.hasDictIn K C && (decide (PySem.W.findIn K (.ref C) "__setattr__" = some (some (.builtin "object.__setattr__"))) && (decide (PySem.W.subIn K (.ref C) (.type "BaseException") = some true) && (decide (PySem.W.typeIn K (.ref C) = some (.type "type")) && PySem.W.keepIn K (.ref C)))))
def exmB (K : PySem.W.Frag) (cs : List Addr) : Bool := decide cs.Nodup && cs.all fun a => cs.all fun b => decide (PySem.W.exmOne K (.ref a) (.ref b) = some (decide (a = b)))
def extB (K : PySem.W.Frag) (cs : List Addr) (CE : Addr) : Bool := cs.all fun a => decide (PySem.W.exmOne K (.ref a) (.ref CE) = some true)
def exiB (K : PySem.W.Frag) (l : List (Addr × Value × Bool)) : Bool := l.all fun p => decide (PySem.W.kitOne K (.ref p.1) p.2.1 = some p.2.2)
def smB (K : PySem.W.Frag) : Bool := (K.lookup sysModules).any fun o => decide (o.cls = .type "dict")
/-- all that an own class of errors must have -/
def exeB (K : PySem.W.Frag) (C : Addr) : Bool := oexB K C && (true && (decide (PySem.W.findIn K (.ref C) "__getattribute__" = some (some (.builtin "BaseException.__getattribute__"))) && (decide (PySem.W.findIn K (.ref C) "__getattr__" = some none) && (decide (PySem.W.findIn K (.ref C) "__class__" = some (some (.builtin "object.__class__"))) &&
  (decide (PySem.W.specialIn K (.builtin "object.__class__") "__get__" = some (some (.builtin "getset_descriptor.__get__"))) && (decide (PySem.W.takesIn K (.builtin "object.__class__") = some true) && decide (PySem.W.mroIn K C (.type "object") = some true)))))))
end Mv
set_option Elab.async false
set_option maxRecDepth 100000
set_option maxHeartbeats 4000000
/-! mvhv0: Bools about errors that are kept: no own __init__; what they hang on. -/
namespace Mv
open PySem PySem.Spec PyProof.Rows L2
/-- the ground of the error at place k of the law's list -/
def gnd (k : Nat) : Nat := if k < 33 then 0 else if k = 33 then 1 else if k = 39 then 3 else 2
/-- what stands above the four grounds -/
def eMr : Nat → List Value
  | 0 => eVE
  | 1 => eLE
  | 2 => eRE
  | _ => eAE
def ev0B (K : PySem.W.Frag) (C : Addr) : Bool := PySem.W.excIn K C eVE "ValueError.__new__" || (PySem.W.excIn K C eRE "RuntimeError.__new__" || (PySem.W.excIn K C eLE "LookupError.__new__" || PySem.W.excIn K C eAE "ArithmeticError.__new__"))
def ertB (K : PySem.W.Frag) (cs bs : List Addr) : Bool := decide (cs ++ bs).Nodup && (decide (cs.length = 42) && (decide (bs.length = 4) &&
  ((cs.zipIdx.all fun p => decide (PySem.W.typeIn K (.ref p.1) = some (.type "type")) && (bs[gnd p.2]?).any fun b => decide ((PySem.W.clsIn K p.1).map (·.mro) = some (.ref p.1 :: .ref b :: eMr (gnd p.2)))) &&
  (bs.zipIdx.all fun p => decide (PySem.W.typeIn K (.ref p.1) = some (.type "type")) && decide ((PySem.W.clsIn K p.1).map (·.mro) = some (.ref p.1 :: eMr p.2))))))
end Mv
set_option Elab.async false
set_option maxRecDepth 100000
set_option maxHeartbeats 4000000
namespace T0
open PySem L2 Mv
open He (ga ma)
def top (i : Nat) : Stmt := PySem.Challenge.pw_movecells_k18_errors_made.main.body.getD i (.Pass ⟨0, 0, 0, 0⟩)
def q0 (K : PySem.W.Frag) : Bool := decide (PySem.W.specialIn K (.builtin "object.__class__") "__get__" = some (some (.builtin "getset_descriptor.__get__")))
def q1 (K : PySem.W.Frag) : Bool := decide (PySem.W.takesIn K (.builtin "object.__class__") = some true)
def q2 (K : PySem.W.Frag) : Bool := decide (PySem.W.nsIn K mainGlobals "len" = some none)
def q3 (K : PySem.W.Frag) : Bool := decide (PySem.W.nsIn K mainGlobals "abs" = some none)
def q4 (K : PySem.W.Frag) : Bool := decide (PySem.W.nsIn K mainGlobals "max" = some none)
def q5 (K : PySem.W.Frag) : Bool := decide (PySem.W.nsIn K mainGlobals "min" = some none)
def q6 (K : PySem.W.Frag) : Bool := decide (PySem.W.nsIn K mainGlobals "int" = some none)
def q7 (K : PySem.W.Frag) : Bool := decide (PySem.W.nsIn K mainGlobals "bool" = some none)
def q8 (K : PySem.W.Frag) : Bool := decide (PySem.W.nsIn K mainGlobals "str" = some none)
def q9 (K : PySem.W.Frag) : Bool := decide (PySem.W.nsIn K mainGlobals "repr" = some none)
def q10 (K : PySem.W.Frag) : Bool := decide (PySem.W.nsIn K mainGlobals "all" = some none)
def q11 (K : PySem.W.Frag) : Bool := decide (PySem.W.nsIn K mainGlobals "any" = some none)
def q12 (K : PySem.W.Frag) : Bool := decide (PySem.W.nsIn K mainGlobals "range" = some none)
def q13 (K : PySem.W.Frag) : Bool := decide (PySem.W.nsIn K mainGlobals "divmod" = some none)
def q14 (K : PySem.W.Frag) : Bool := decide (PySem.W.nsIn K mainGlobals "isinstance" = some none)
def q15 (K : PySem.W.Frag) : Bool := decide (PySem.W.nsIn K mainGlobals "list" = some none)
def q16 (K : PySem.W.Frag) : Bool := decide (PySem.W.nsIn K mainGlobals "tuple" = some none)
def q17 (K : PySem.W.Frag) : Bool := decide (PySem.W.nsIn K mainGlobals "dict" = some none)
def q18 (K : PySem.W.Frag) : Bool := decide (PySem.W.nsIn K mainGlobals "enumerate" = some none)
def q19 (K : PySem.W.Frag) : Bool := decide (PySem.W.nsIn K mainGlobals "zip" = some none)
def q20 (K : PySem.W.Frag) : Bool := decide (PySem.W.nsIn K mainGlobals "sorted" = some none)
def q21 (K : PySem.W.Frag) : Bool := decide (PySem.W.nsIn K mainGlobals "sum" = some none)
def q22 (K : PySem.W.Frag) : Bool := decide (PySem.W.nsIn K mainGlobals "type" = some none)
def q23 (K : PySem.W.Frag) : Bool := smB K
def q24 (K : PySem.W.Frag) : Bool := decide (PySem.W.nsIn K mainGlobals "InvalidNumber" = some (some (.ref (ga K "InvalidNumber"))))
def q25 (K : PySem.W.Frag) : Bool := exeB K (ga K "InvalidNumber")
def q26 (K : PySem.W.Frag) : Bool := decide (PySem.W.findIn K (.ref (ga K "InvalidNumber")) "value" = some none)
def q27 (K : PySem.W.Frag) : Bool := decide (PySem.W.nsIn K mainGlobals "InvalidPhase" = some (some (.ref (ga K "InvalidPhase"))))
def q28 (K : PySem.W.Frag) : Bool := exeB K (ga K "InvalidPhase")
def q29 (K : PySem.W.Frag) : Bool := decide (PySem.W.findIn K (.ref (ga K "InvalidPhase")) "value" = some none)
def q30 (K : PySem.W.Frag) : Bool := decide (PySem.W.nsIn K mainGlobals "InvalidSign" = some (some (.ref (ga K "InvalidSign"))))
def q31 (K : PySem.W.Frag) : Bool := exeB K (ga K "InvalidSign")
def q32 (K : PySem.W.Frag) : Bool := decide (PySem.W.findIn K (.ref (ga K "InvalidSign")) "value" = some none)
def q33 (K : PySem.W.Frag) : Bool := decide (PySem.W.nsIn K mainGlobals "InvalidPair" = some (some (.ref (ga K "InvalidPair"))))
def q34 (K : PySem.W.Frag) : Bool := exeB K (ga K "InvalidPair")
def q35 (K : PySem.W.Frag) : Bool := decide (PySem.W.findIn K (.ref (ga K "InvalidPair")) "value" = some none)
def q36 (K : PySem.W.Frag) : Bool := decide (PySem.W.nsIn K mainGlobals "InvalidLength" = some (some (.ref (ga K "InvalidLength"))))
def q37 (K : PySem.W.Frag) : Bool := exeB K (ga K "InvalidLength")
def q38 (K : PySem.W.Frag) : Bool := decide (PySem.W.findIn K (.ref (ga K "InvalidLength")) "value" = some none)
def q39 (K : PySem.W.Frag) : Bool := decide (PySem.W.nsIn K mainGlobals "InvalidClosed" = some (some (.ref (ga K "InvalidClosed"))))
def q40 (K : PySem.W.Frag) : Bool := exeB K (ga K "InvalidClosed")
def q41 (K : PySem.W.Frag) : Bool := decide (PySem.W.findIn K (.ref (ga K "InvalidClosed")) "value" = some none)
def q42 (K : PySem.W.Frag) : Bool := decide (PySem.W.nsIn K mainGlobals "InvalidAxis" = some (some (.ref (ga K "InvalidAxis"))))
def q43 (K : PySem.W.Frag) : Bool := exeB K (ga K "InvalidAxis")
def q44 (K : PySem.W.Frag) : Bool := decide (PySem.W.findIn K (.ref (ga K "InvalidAxis")) "value" = some none)
def q45 (K : PySem.W.Frag) : Bool := decide (PySem.W.nsIn K mainGlobals "InvalidName" = some (some (.ref (ga K "InvalidName"))))
def q46 (K : PySem.W.Frag) : Bool := exeB K (ga K "InvalidName")
def q47 (K : PySem.W.Frag) : Bool := decide (PySem.W.findIn K (.ref (ga K "InvalidName")) "value" = some none)
def q48 (K : PySem.W.Frag) : Bool := decide (PySem.W.nsIn K mainGlobals "InvalidPlace" = some (some (.ref (ga K "InvalidPlace"))))
def q49 (K : PySem.W.Frag) : Bool := exeB K (ga K "InvalidPlace")
def q50 (K : PySem.W.Frag) : Bool := decide (PySem.W.findIn K (.ref (ga K "InvalidPlace")) "value" = some none)
def q51 (K : PySem.W.Frag) : Bool := decide (PySem.W.nsIn K mainGlobals "InvalidKind" = some (some (.ref (ga K "InvalidKind"))))
def q52 (K : PySem.W.Frag) : Bool := exeB K (ga K "InvalidKind")
def q53 (K : PySem.W.Frag) : Bool := decide (PySem.W.findIn K (.ref (ga K "InvalidKind")) "value" = some none)
def q54 (K : PySem.W.Frag) : Bool := decide (PySem.W.nsIn K mainGlobals "InvalidDirection" = some (some (.ref (ga K "InvalidDirection"))))
def q55 (K : PySem.W.Frag) : Bool := exeB K (ga K "InvalidDirection")
def q56 (K : PySem.W.Frag) : Bool := decide (PySem.W.findIn K (.ref (ga K "InvalidDirection")) "value" = some none)
def q57 (K : PySem.W.Frag) : Bool := decide (PySem.W.nsIn K mainGlobals "InvalidMove" = some (some (.ref (ga K "InvalidMove"))))
def q58 (K : PySem.W.Frag) : Bool := exeB K (ga K "InvalidMove")
def q59 (K : PySem.W.Frag) : Bool := decide (PySem.W.findIn K (.ref (ga K "InvalidMove")) "value" = some none)
def q60 (K : PySem.W.Frag) : Bool := decide (PySem.W.nsIn K mainGlobals "InvalidEdges" = some (some (.ref (ga K "InvalidEdges"))))
def q61 (K : PySem.W.Frag) : Bool := exeB K (ga K "InvalidEdges")
def q62 (K : PySem.W.Frag) : Bool := decide (PySem.W.findIn K (.ref (ga K "InvalidEdges")) "value" = some none)
def q63 (K : PySem.W.Frag) : Bool := decide (PySem.W.nsIn K mainGlobals "InvalidBegins" = some (some (.ref (ga K "InvalidBegins"))))
def q64 (K : PySem.W.Frag) : Bool := exeB K (ga K "InvalidBegins")
def q65 (K : PySem.W.Frag) : Bool := decide (PySem.W.findIn K (.ref (ga K "InvalidBegins")) "value" = some none)
def q66 (K : PySem.W.Frag) : Bool := decide (PySem.W.nsIn K mainGlobals "InvalidEntry" = some (some (.ref (ga K "InvalidEntry"))))
def q67 (K : PySem.W.Frag) : Bool := exeB K (ga K "InvalidEntry")
def q68 (K : PySem.W.Frag) : Bool := decide (PySem.W.findIn K (.ref (ga K "InvalidEntry")) "value" = some none)
def q69 (K : PySem.W.Frag) : Bool := decide (PySem.W.nsIn K mainGlobals "InvalidReach" = some (some (.ref (ga K "InvalidReach"))))
def q70 (K : PySem.W.Frag) : Bool := exeB K (ga K "InvalidReach")
def q71 (K : PySem.W.Frag) : Bool := decide (PySem.W.findIn K (.ref (ga K "InvalidReach")) "value" = some none)
def q72 (K : PySem.W.Frag) : Bool := decide (PySem.W.nsIn K mainGlobals "InvalidDistance" = some (some (.ref (ga K "InvalidDistance"))))
def q73 (K : PySem.W.Frag) : Bool := exeB K (ga K "InvalidDistance")
def q74 (K : PySem.W.Frag) : Bool := decide (PySem.W.findIn K (.ref (ga K "InvalidDistance")) "value" = some none)
def q75 (K : PySem.W.Frag) : Bool := decide (PySem.W.nsIn K mainGlobals "InvalidLooks" = some (some (.ref (ga K "InvalidLooks"))))
def q76 (K : PySem.W.Frag) : Bool := exeB K (ga K "InvalidLooks")
def q77 (K : PySem.W.Frag) : Bool := decide (PySem.W.findIn K (.ref (ga K "InvalidLooks")) "value" = some none)
def q78 (K : PySem.W.Frag) : Bool := decide (PySem.W.nsIn K mainGlobals "InvalidPlaces" = some (some (.ref (ga K "InvalidPlaces"))))
def q79 (K : PySem.W.Frag) : Bool := exeB K (ga K "InvalidPlaces")
def q80 (K : PySem.W.Frag) : Bool := decide (PySem.W.findIn K (.ref (ga K "InvalidPlaces")) "value" = some none)
def q81 (K : PySem.W.Frag) : Bool := decide (PySem.W.nsIn K mainGlobals "InvalidWord" = some (some (.ref (ga K "InvalidWord"))))
def q82 (K : PySem.W.Frag) : Bool := exeB K (ga K "InvalidWord")
def q83 (K : PySem.W.Frag) : Bool := decide (PySem.W.findIn K (.ref (ga K "InvalidWord")) "value" = some none)
def q84 (K : PySem.W.Frag) : Bool := decide (PySem.W.nsIn K mainGlobals "InvalidTarget" = some (some (.ref (ga K "InvalidTarget"))))
def q85 (K : PySem.W.Frag) : Bool := exeB K (ga K "InvalidTarget")
def q86 (K : PySem.W.Frag) : Bool := decide (PySem.W.findIn K (.ref (ga K "InvalidTarget")) "value" = some none)
def q87 (K : PySem.W.Frag) : Bool := decide (PySem.W.nsIn K mainGlobals "InvalidState" = some (some (.ref (ga K "InvalidState"))))
def q88 (K : PySem.W.Frag) : Bool := exeB K (ga K "InvalidState")
def q89 (K : PySem.W.Frag) : Bool := decide (PySem.W.findIn K (.ref (ga K "InvalidState")) "value" = some none)
def q90 (K : PySem.W.Frag) : Bool := decide (PySem.W.nsIn K mainGlobals "InvalidRule" = some (some (.ref (ga K "InvalidRule"))))
def q91 (K : PySem.W.Frag) : Bool := exeB K (ga K "InvalidRule")
def q92 (K : PySem.W.Frag) : Bool := decide (PySem.W.findIn K (.ref (ga K "InvalidRule")) "value" = some none)
def q93 (K : PySem.W.Frag) : Bool := decide (PySem.W.nsIn K mainGlobals "InvalidTable" = some (some (.ref (ga K "InvalidTable"))))
def q94 (K : PySem.W.Frag) : Bool := exeB K (ga K "InvalidTable")
def q95 (K : PySem.W.Frag) : Bool := decide (PySem.W.findIn K (.ref (ga K "InvalidTable")) "value" = some none)
def q96 (K : PySem.W.Frag) : Bool := decide (PySem.W.nsIn K mainGlobals "InvalidMap" = some (some (.ref (ga K "InvalidMap"))))
def q97 (K : PySem.W.Frag) : Bool := exeB K (ga K "InvalidMap")
def q98 (K : PySem.W.Frag) : Bool := decide (PySem.W.findIn K (.ref (ga K "InvalidMap")) "value" = some none)
def q99 (K : PySem.W.Frag) : Bool := decide (PySem.W.nsIn K mainGlobals "InvalidPlan" = some (some (.ref (ga K "InvalidPlan"))))
def q100 (K : PySem.W.Frag) : Bool := exeB K (ga K "InvalidPlan")
def q101 (K : PySem.W.Frag) : Bool := decide (PySem.W.findIn K (.ref (ga K "InvalidPlan")) "value" = some none)
def q102 (K : PySem.W.Frag) : Bool := decide (PySem.W.nsIn K mainGlobals "InvalidGauge" = some (some (.ref (ga K "InvalidGauge"))))
def q103 (K : PySem.W.Frag) : Bool := exeB K (ga K "InvalidGauge")
def q104 (K : PySem.W.Frag) : Bool := decide (PySem.W.findIn K (.ref (ga K "InvalidGauge")) "value" = some none)
def q105 (K : PySem.W.Frag) : Bool := decide (PySem.W.nsIn K mainGlobals "InvalidClaim" = some (some (.ref (ga K "InvalidClaim"))))
def q106 (K : PySem.W.Frag) : Bool := exeB K (ga K "InvalidClaim")
def q107 (K : PySem.W.Frag) : Bool := decide (PySem.W.findIn K (.ref (ga K "InvalidClaim")) "value" = some none)
def q108 (K : PySem.W.Frag) : Bool := decide (PySem.W.nsIn K mainGlobals "InvalidCommand" = some (some (.ref (ga K "InvalidCommand"))))
def q109 (K : PySem.W.Frag) : Bool := exeB K (ga K "InvalidCommand")
def q110 (K : PySem.W.Frag) : Bool := decide (PySem.W.findIn K (.ref (ga K "InvalidCommand")) "value" = some none)
def q111 (K : PySem.W.Frag) : Bool := decide (PySem.W.nsIn K mainGlobals "InvalidRounds" = some (some (.ref (ga K "InvalidRounds"))))
def q112 (K : PySem.W.Frag) : Bool := exeB K (ga K "InvalidRounds")
def q113 (K : PySem.W.Frag) : Bool := decide (PySem.W.findIn K (.ref (ga K "InvalidRounds")) "position" = some none)
def q114 (K : PySem.W.Frag) : Bool := decide (PySem.W.nsIn K mainGlobals "InvalidStates" = some (some (.ref (ga K "InvalidStates"))))
def q115 (K : PySem.W.Frag) : Bool := exeB K (ga K "InvalidStates")
def q116 (K : PySem.W.Frag) : Bool := decide (PySem.W.findIn K (.ref (ga K "InvalidStates")) "position" = some none)
def q117 (K : PySem.W.Frag) : Bool := decide (PySem.W.nsIn K mainGlobals "InvalidMoves" = some (some (.ref (ga K "InvalidMoves"))))
def q118 (K : PySem.W.Frag) : Bool := exeB K (ga K "InvalidMoves")
def q119 (K : PySem.W.Frag) : Bool := decide (PySem.W.findIn K (.ref (ga K "InvalidMoves")) "position" = some none)
def q120 (K : PySem.W.Frag) : Bool := decide (PySem.W.nsIn K mainGlobals "InvalidText" = some (some (.ref (ga K "InvalidText"))))
def q121 (K : PySem.W.Frag) : Bool := exeB K (ga K "InvalidText")
def q122 (K : PySem.W.Frag) : Bool := decide (PySem.W.findIn K (.ref (ga K "InvalidText")) "line" = some none)
def q123 (K : PySem.W.Frag) : Bool := decide (PySem.W.nsIn K mainGlobals "UnknownWord" = some (some (.ref (ga K "UnknownWord"))))
def q124 (K : PySem.W.Frag) : Bool := exeB K (ga K "UnknownWord")
def q125 (K : PySem.W.Frag) : Bool := decide (PySem.W.findIn K (.ref (ga K "UnknownWord")) "value" = some none)
def q126 (K : PySem.W.Frag) : Bool := decide (PySem.W.nsIn K mainGlobals "CommandFailed" = some (some (.ref (ga K "CommandFailed"))))
def q127 (K : PySem.W.Frag) : Bool := exeB K (ga K "CommandFailed")
def q128 (K : PySem.W.Frag) : Bool := decide (PySem.W.findIn K (.ref (ga K "CommandFailed")) "position" = some none)
def q129 (K : PySem.W.Frag) : Bool := decide (PySem.W.nsIn K mainGlobals "NotBalanced" = some (some (.ref (ga K "NotBalanced"))))
def q130 (K : PySem.W.Frag) : Bool := exeB K (ga K "NotBalanced")
def q131 (K : PySem.W.Frag) : Bool := decide (PySem.W.findIn K (.ref (ga K "NotBalanced")) "columns" = some none)
def q132 (K : PySem.W.Frag) : Bool := decide (PySem.W.findIn K (.ref (ga K "NotBalanced")) "rows" = some none)
def q133 (K : PySem.W.Frag) : Bool := decide (PySem.W.nsIn K mainGlobals "OtherPlan" = some (some (.ref (ga K "OtherPlan"))))
def q134 (K : PySem.W.Frag) : Bool := exeB K (ga K "OtherPlan")
def q135 (K : PySem.W.Frag) : Bool := decide (PySem.W.findIn K (.ref (ga K "OtherPlan")) "one" = some none)
def q136 (K : PySem.W.Frag) : Bool := decide (PySem.W.findIn K (.ref (ga K "OtherPlan")) "other" = some none)
def q137 (K : PySem.W.Frag) : Bool := decide (PySem.W.nsIn K mainGlobals "OtherMap" = some (some (.ref (ga K "OtherMap"))))
def q138 (K : PySem.W.Frag) : Bool := exeB K (ga K "OtherMap")
def q139 (K : PySem.W.Frag) : Bool := decide (PySem.W.findIn K (.ref (ga K "OtherMap")) "one" = some none)
def q140 (K : PySem.W.Frag) : Bool := decide (PySem.W.findIn K (.ref (ga K "OtherMap")) "other" = some none)
def q141 (K : PySem.W.Frag) : Bool := decide (PySem.W.nsIn K mainGlobals "NoNeighbour" = some (some (.ref (ga K "NoNeighbour"))))
def q142 (K : PySem.W.Frag) : Bool := exeB K (ga K "NoNeighbour")
def q143 (K : PySem.W.Frag) : Bool := decide (PySem.W.findIn K (.ref (ga K "NoNeighbour")) "value" = some none)
def q144 (K : PySem.W.Frag) : Bool := decide (PySem.W.findIn K (.ref (ga K "NoNeighbour")) "move" = some none)
def q145 (K : PySem.W.Frag) : Bool := decide (PySem.W.nsIn K mainGlobals "TooMany" = some (some (.ref (ga K "TooMany"))))
def q146 (K : PySem.W.Frag) : Bool := exeB K (ga K "TooMany")
def q147 (K : PySem.W.Frag) : Bool := decide (PySem.W.findIn K (.ref (ga K "TooMany")) "what" = some none)
def q148 (K : PySem.W.Frag) : Bool := decide (PySem.W.findIn K (.ref (ga K "TooMany")) "limit" = some none)
def q149 (K : PySem.W.Frag) : Bool := decide (PySem.W.nsIn K mainGlobals "DividedByZero" = some (some (.ref (ga K "DividedByZero"))))
def q150 (K : PySem.W.Frag) : Bool := exeB K (ga K "DividedByZero")
def q151 (K : PySem.W.Frag) : Bool := ev0B K (ga K "DividedByZero")
def q152 (K : PySem.W.Frag) : Bool := decide (PySem.W.nsIn K mainGlobals "NothingToUndo" = some (some (.ref (ga K "NothingToUndo"))))
def q153 (K : PySem.W.Frag) : Bool := exeB K (ga K "NothingToUndo")
def q154 (K : PySem.W.Frag) : Bool := ev0B K (ga K "NothingToUndo")
def q155 (K : PySem.W.Frag) : Bool := decide (PySem.W.nsIn K mainGlobals "ValueError" = some none)
def q156 (K : PySem.W.Frag) : Bool := decide (PySem.W.nsIn K mainGlobals "RuntimeError" = some none)
def q157 (K : PySem.W.Frag) : Bool := decide (PySem.W.nsIn K mainGlobals "LookupError" = some none)
def q158 (K : PySem.W.Frag) : Bool := decide (PySem.W.nsIn K mainGlobals "ArithmeticError" = some none)
def q159 (K : PySem.W.Frag) : Bool := decide (PySem.W.nsIn K mainGlobals "IndexError" = some none)
def q160 (K : PySem.W.Frag) : Bool := decide (PySem.W.nsIn K mainGlobals "KeyError" = some none)
def q161 (K : PySem.W.Frag) : Bool := decide (PySem.W.nsIn K mainGlobals "TypeError" = some none)
def q162 (K : PySem.W.Frag) : Bool := decide (PySem.W.nsIn K mainGlobals "ZeroDivisionError" = some none)
def q163 (K : PySem.W.Frag) : Bool := decide (PySem.W.nsIn K mainGlobals "CellError" = some (some (.ref (ga K "CellError"))))
def q164 (K : PySem.W.Frag) : Bool := exeB K (ga K "CellError")
def q165 (K : PySem.W.Frag) : Bool := ev0B K (ga K "CellError")
def q166 (K : PySem.W.Frag) : Bool := decide (PySem.W.nsIn K mainGlobals "MissingError" = some (some (.ref (ga K "MissingError"))))
def q167 (K : PySem.W.Frag) : Bool := exeB K (ga K "MissingError")
def q168 (K : PySem.W.Frag) : Bool := ev0B K (ga K "MissingError")
def q169 (K : PySem.W.Frag) : Bool := decide (PySem.W.nsIn K mainGlobals "StateError" = some (some (.ref (ga K "StateError"))))
def q170 (K : PySem.W.Frag) : Bool := exeB K (ga K "StateError")
def q171 (K : PySem.W.Frag) : Bool := ev0B K (ga K "StateError")
def q172 (K : PySem.W.Frag) : Bool := decide (PySem.W.nsIn K mainGlobals "LimitError" = some (some (.ref (ga K "LimitError"))))
def q173 (K : PySem.W.Frag) : Bool := exeB K (ga K "LimitError")
def q174 (K : PySem.W.Frag) : Bool := ev0B K (ga K "LimitError")
def q175 (K : PySem.W.Frag) : Bool := ertB K ((ga K "InvalidNumber") :: (ga K "InvalidPhase") :: (ga K "InvalidSign") :: (ga K "InvalidPair") :: (ga K "InvalidLength") :: (ga K "InvalidClosed") :: (ga K "InvalidAxis") :: (ga K "InvalidName") :: (ga K "InvalidPlace") :: (ga K "InvalidKind") :: (ga K "InvalidDirection") :: (ga K "InvalidMove") :: (ga K "InvalidEdges") :: (ga K "InvalidBegins") :: (ga K "InvalidEntry") :: (ga K "InvalidReach") :: (ga K "InvalidDistance") :: (ga K "InvalidLooks") :: (ga K "InvalidPlaces") :: (ga K "InvalidWord") :: (ga K "InvalidTarget") :: (ga K "InvalidState") :: (ga K "InvalidRule") :: (ga K "InvalidTable") :: (ga K "InvalidMap") :: (ga K "InvalidPlan") :: (ga K "InvalidGauge") :: (ga K "InvalidClaim") :: (ga K "InvalidCommand") :: (ga K "InvalidRounds") :: (ga K "InvalidStates") :: (ga K "InvalidMoves") :: (ga K "InvalidText") :: (ga K "UnknownWord") :: (ga K "CommandFailed") :: (ga K "NotBalanced") :: (ga K "OtherPlan") :: (ga K "OtherMap") :: (ga K "NoNeighbour") :: (ga K "TooMany") :: (ga K "DividedByZero") :: (ga K "NothingToUndo") :: []) [(ga K "CellError"), (ga K "MissingError"), (ga K "StateError"), (ga K "LimitError")]
def q176 (K : PySem.W.Frag) : Bool := decide (PySem.W.nsIn K mainGlobals "law" = some (some (.ref (ga K "law"))))
def q177 (K : PySem.W.Frag) : Bool := decide (PySem.W.nsIn K mainGlobals "_law_pot" = some (some (.ref (ga K "_law_pot"))))
def q178 (K : PySem.W.Frag) : Bool := decide (PySem.W.nsIn K mainGlobals "_law_right" = some (some (.ref (ga K "_law_right"))))
def q179 (K : PySem.W.Frag) : Bool := decide (PySem.W.nsIn K mainGlobals "_law_pick" = some (some (.ref (ga K "_law_pick"))))
def q180 (K : PySem.W.Frag) : Bool := decide (PySem.W.nsIn K mainGlobals "_law_draw" = some (some (.ref (ga K "_law_draw"))))
def q181 (K : PySem.W.Frag) : Bool := decide (PySem.W.nsIn K mainGlobals "_law_all" = some (some (.ref (ga K "_law_all"))))
def q182 (K : PySem.W.Frag) : Bool := decide (PySem.W.findIn K (.ref (ga K "InvalidNumber")) "__init__" = some (some (.ref (ma K (ga K "InvalidNumber") "__init__"))))
def q183 (K : PySem.W.Frag) : Bool := decide (PySem.W.typeIn K (.ref (ma K (ga K "InvalidNumber") "__init__")) = some (.type "function"))
def q184 (K : PySem.W.Frag) : Bool := decide (PySem.W.findIn K (.ref (ga K "InvalidPhase")) "__init__" = some (some (.ref (ma K (ga K "InvalidPhase") "__init__"))))
def q185 (K : PySem.W.Frag) : Bool := decide (PySem.W.typeIn K (.ref (ma K (ga K "InvalidPhase") "__init__")) = some (.type "function"))
def q186 (K : PySem.W.Frag) : Bool := decide (PySem.W.findIn K (.ref (ga K "InvalidSign")) "__init__" = some (some (.ref (ma K (ga K "InvalidSign") "__init__"))))
def q187 (K : PySem.W.Frag) : Bool := decide (PySem.W.typeIn K (.ref (ma K (ga K "InvalidSign") "__init__")) = some (.type "function"))
def q188 (K : PySem.W.Frag) : Bool := decide (PySem.W.findIn K (.ref (ga K "InvalidPair")) "__init__" = some (some (.ref (ma K (ga K "InvalidPair") "__init__"))))
def q189 (K : PySem.W.Frag) : Bool := decide (PySem.W.typeIn K (.ref (ma K (ga K "InvalidPair") "__init__")) = some (.type "function"))
def q190 (K : PySem.W.Frag) : Bool := decide (PySem.W.findIn K (.ref (ga K "InvalidLength")) "__init__" = some (some (.ref (ma K (ga K "InvalidLength") "__init__"))))
def q191 (K : PySem.W.Frag) : Bool := decide (PySem.W.typeIn K (.ref (ma K (ga K "InvalidLength") "__init__")) = some (.type "function"))
def q192 (K : PySem.W.Frag) : Bool := decide (PySem.W.findIn K (.ref (ga K "InvalidClosed")) "__init__" = some (some (.ref (ma K (ga K "InvalidClosed") "__init__"))))
def q193 (K : PySem.W.Frag) : Bool := decide (PySem.W.typeIn K (.ref (ma K (ga K "InvalidClosed") "__init__")) = some (.type "function"))
def q194 (K : PySem.W.Frag) : Bool := decide (PySem.W.findIn K (.ref (ga K "InvalidAxis")) "__init__" = some (some (.ref (ma K (ga K "InvalidAxis") "__init__"))))
def q195 (K : PySem.W.Frag) : Bool := decide (PySem.W.typeIn K (.ref (ma K (ga K "InvalidAxis") "__init__")) = some (.type "function"))
def q196 (K : PySem.W.Frag) : Bool := decide (PySem.W.findIn K (.ref (ga K "InvalidName")) "__init__" = some (some (.ref (ma K (ga K "InvalidName") "__init__"))))
def q197 (K : PySem.W.Frag) : Bool := decide (PySem.W.typeIn K (.ref (ma K (ga K "InvalidName") "__init__")) = some (.type "function"))
def q198 (K : PySem.W.Frag) : Bool := decide (PySem.W.findIn K (.ref (ga K "InvalidPlace")) "__init__" = some (some (.ref (ma K (ga K "InvalidPlace") "__init__"))))
def q199 (K : PySem.W.Frag) : Bool := decide (PySem.W.typeIn K (.ref (ma K (ga K "InvalidPlace") "__init__")) = some (.type "function"))
def q200 (K : PySem.W.Frag) : Bool := decide (PySem.W.findIn K (.ref (ga K "InvalidKind")) "__init__" = some (some (.ref (ma K (ga K "InvalidKind") "__init__"))))
def q201 (K : PySem.W.Frag) : Bool := decide (PySem.W.typeIn K (.ref (ma K (ga K "InvalidKind") "__init__")) = some (.type "function"))
def q202 (K : PySem.W.Frag) : Bool := decide (PySem.W.findIn K (.ref (ga K "InvalidDirection")) "__init__" = some (some (.ref (ma K (ga K "InvalidDirection") "__init__"))))
def q203 (K : PySem.W.Frag) : Bool := decide (PySem.W.typeIn K (.ref (ma K (ga K "InvalidDirection") "__init__")) = some (.type "function"))
def q204 (K : PySem.W.Frag) : Bool := decide (PySem.W.findIn K (.ref (ga K "InvalidMove")) "__init__" = some (some (.ref (ma K (ga K "InvalidMove") "__init__"))))
def q205 (K : PySem.W.Frag) : Bool := decide (PySem.W.typeIn K (.ref (ma K (ga K "InvalidMove") "__init__")) = some (.type "function"))
def q206 (K : PySem.W.Frag) : Bool := decide (PySem.W.findIn K (.ref (ga K "InvalidEdges")) "__init__" = some (some (.ref (ma K (ga K "InvalidEdges") "__init__"))))
def q207 (K : PySem.W.Frag) : Bool := decide (PySem.W.typeIn K (.ref (ma K (ga K "InvalidEdges") "__init__")) = some (.type "function"))
def q208 (K : PySem.W.Frag) : Bool := decide (PySem.W.findIn K (.ref (ga K "InvalidBegins")) "__init__" = some (some (.ref (ma K (ga K "InvalidBegins") "__init__"))))
def q209 (K : PySem.W.Frag) : Bool := decide (PySem.W.typeIn K (.ref (ma K (ga K "InvalidBegins") "__init__")) = some (.type "function"))
def q210 (K : PySem.W.Frag) : Bool := decide (PySem.W.findIn K (.ref (ga K "InvalidEntry")) "__init__" = some (some (.ref (ma K (ga K "InvalidEntry") "__init__"))))
def q211 (K : PySem.W.Frag) : Bool := decide (PySem.W.typeIn K (.ref (ma K (ga K "InvalidEntry") "__init__")) = some (.type "function"))
def q212 (K : PySem.W.Frag) : Bool := decide (PySem.W.findIn K (.ref (ga K "InvalidReach")) "__init__" = some (some (.ref (ma K (ga K "InvalidReach") "__init__"))))
def q213 (K : PySem.W.Frag) : Bool := decide (PySem.W.typeIn K (.ref (ma K (ga K "InvalidReach") "__init__")) = some (.type "function"))
def q214 (K : PySem.W.Frag) : Bool := decide (PySem.W.findIn K (.ref (ga K "InvalidDistance")) "__init__" = some (some (.ref (ma K (ga K "InvalidDistance") "__init__"))))
def q215 (K : PySem.W.Frag) : Bool := decide (PySem.W.typeIn K (.ref (ma K (ga K "InvalidDistance") "__init__")) = some (.type "function"))
def q216 (K : PySem.W.Frag) : Bool := decide (PySem.W.findIn K (.ref (ga K "InvalidLooks")) "__init__" = some (some (.ref (ma K (ga K "InvalidLooks") "__init__"))))
def q217 (K : PySem.W.Frag) : Bool := decide (PySem.W.typeIn K (.ref (ma K (ga K "InvalidLooks") "__init__")) = some (.type "function"))
def q218 (K : PySem.W.Frag) : Bool := decide (PySem.W.findIn K (.ref (ga K "InvalidPlaces")) "__init__" = some (some (.ref (ma K (ga K "InvalidPlaces") "__init__"))))
def q219 (K : PySem.W.Frag) : Bool := decide (PySem.W.typeIn K (.ref (ma K (ga K "InvalidPlaces") "__init__")) = some (.type "function"))
def q220 (K : PySem.W.Frag) : Bool := decide (PySem.W.findIn K (.ref (ga K "InvalidWord")) "__init__" = some (some (.ref (ma K (ga K "InvalidWord") "__init__"))))
def q221 (K : PySem.W.Frag) : Bool := decide (PySem.W.typeIn K (.ref (ma K (ga K "InvalidWord") "__init__")) = some (.type "function"))
def q222 (K : PySem.W.Frag) : Bool := decide (PySem.W.findIn K (.ref (ga K "InvalidTarget")) "__init__" = some (some (.ref (ma K (ga K "InvalidTarget") "__init__"))))
def q223 (K : PySem.W.Frag) : Bool := decide (PySem.W.typeIn K (.ref (ma K (ga K "InvalidTarget") "__init__")) = some (.type "function"))
def q224 (K : PySem.W.Frag) : Bool := decide (PySem.W.findIn K (.ref (ga K "InvalidState")) "__init__" = some (some (.ref (ma K (ga K "InvalidState") "__init__"))))
def q225 (K : PySem.W.Frag) : Bool := decide (PySem.W.typeIn K (.ref (ma K (ga K "InvalidState") "__init__")) = some (.type "function"))
def q226 (K : PySem.W.Frag) : Bool := decide (PySem.W.findIn K (.ref (ga K "InvalidRule")) "__init__" = some (some (.ref (ma K (ga K "InvalidRule") "__init__"))))
def q227 (K : PySem.W.Frag) : Bool := decide (PySem.W.typeIn K (.ref (ma K (ga K "InvalidRule") "__init__")) = some (.type "function"))
def q228 (K : PySem.W.Frag) : Bool := decide (PySem.W.findIn K (.ref (ga K "InvalidTable")) "__init__" = some (some (.ref (ma K (ga K "InvalidTable") "__init__"))))
def q229 (K : PySem.W.Frag) : Bool := decide (PySem.W.typeIn K (.ref (ma K (ga K "InvalidTable") "__init__")) = some (.type "function"))
def q230 (K : PySem.W.Frag) : Bool := decide (PySem.W.findIn K (.ref (ga K "InvalidMap")) "__init__" = some (some (.ref (ma K (ga K "InvalidMap") "__init__"))))
def q231 (K : PySem.W.Frag) : Bool := decide (PySem.W.typeIn K (.ref (ma K (ga K "InvalidMap") "__init__")) = some (.type "function"))
def q232 (K : PySem.W.Frag) : Bool := decide (PySem.W.findIn K (.ref (ga K "InvalidPlan")) "__init__" = some (some (.ref (ma K (ga K "InvalidPlan") "__init__"))))
def q233 (K : PySem.W.Frag) : Bool := decide (PySem.W.typeIn K (.ref (ma K (ga K "InvalidPlan") "__init__")) = some (.type "function"))
def q234 (K : PySem.W.Frag) : Bool := decide (PySem.W.findIn K (.ref (ga K "InvalidGauge")) "__init__" = some (some (.ref (ma K (ga K "InvalidGauge") "__init__"))))
def q235 (K : PySem.W.Frag) : Bool := decide (PySem.W.typeIn K (.ref (ma K (ga K "InvalidGauge") "__init__")) = some (.type "function"))
def q236 (K : PySem.W.Frag) : Bool := decide (PySem.W.findIn K (.ref (ga K "InvalidClaim")) "__init__" = some (some (.ref (ma K (ga K "InvalidClaim") "__init__"))))
def q237 (K : PySem.W.Frag) : Bool := decide (PySem.W.typeIn K (.ref (ma K (ga K "InvalidClaim") "__init__")) = some (.type "function"))
def q238 (K : PySem.W.Frag) : Bool := decide (PySem.W.findIn K (.ref (ga K "InvalidCommand")) "__init__" = some (some (.ref (ma K (ga K "InvalidCommand") "__init__"))))
def q239 (K : PySem.W.Frag) : Bool := decide (PySem.W.typeIn K (.ref (ma K (ga K "InvalidCommand") "__init__")) = some (.type "function"))
def q240 (K : PySem.W.Frag) : Bool := decide (PySem.W.findIn K (.ref (ga K "InvalidRounds")) "__init__" = some (some (.ref (ma K (ga K "InvalidRounds") "__init__"))))
def q241 (K : PySem.W.Frag) : Bool := decide (PySem.W.typeIn K (.ref (ma K (ga K "InvalidRounds") "__init__")) = some (.type "function"))
def q242 (K : PySem.W.Frag) : Bool := decide (PySem.W.findIn K (.ref (ga K "InvalidStates")) "__init__" = some (some (.ref (ma K (ga K "InvalidStates") "__init__"))))
def q243 (K : PySem.W.Frag) : Bool := decide (PySem.W.typeIn K (.ref (ma K (ga K "InvalidStates") "__init__")) = some (.type "function"))
def q244 (K : PySem.W.Frag) : Bool := decide (PySem.W.findIn K (.ref (ga K "InvalidMoves")) "__init__" = some (some (.ref (ma K (ga K "InvalidMoves") "__init__"))))
def q245 (K : PySem.W.Frag) : Bool := decide (PySem.W.typeIn K (.ref (ma K (ga K "InvalidMoves") "__init__")) = some (.type "function"))
def q246 (K : PySem.W.Frag) : Bool := decide (PySem.W.findIn K (.ref (ga K "InvalidText")) "__init__" = some (some (.ref (ma K (ga K "InvalidText") "__init__"))))
def q247 (K : PySem.W.Frag) : Bool := decide (PySem.W.typeIn K (.ref (ma K (ga K "InvalidText") "__init__")) = some (.type "function"))
def q248 (K : PySem.W.Frag) : Bool := decide (PySem.W.findIn K (.ref (ga K "UnknownWord")) "__init__" = some (some (.ref (ma K (ga K "UnknownWord") "__init__"))))
def q249 (K : PySem.W.Frag) : Bool := decide (PySem.W.typeIn K (.ref (ma K (ga K "UnknownWord") "__init__")) = some (.type "function"))
def q250 (K : PySem.W.Frag) : Bool := decide (PySem.W.findIn K (.ref (ga K "CommandFailed")) "__init__" = some (some (.ref (ma K (ga K "CommandFailed") "__init__"))))
def q251 (K : PySem.W.Frag) : Bool := decide (PySem.W.typeIn K (.ref (ma K (ga K "CommandFailed") "__init__")) = some (.type "function"))
def q252 (K : PySem.W.Frag) : Bool := decide (PySem.W.findIn K (.ref (ga K "NotBalanced")) "__init__" = some (some (.ref (ma K (ga K "NotBalanced") "__init__"))))
def q253 (K : PySem.W.Frag) : Bool := decide (PySem.W.typeIn K (.ref (ma K (ga K "NotBalanced") "__init__")) = some (.type "function"))
def q254 (K : PySem.W.Frag) : Bool := decide (PySem.W.findIn K (.ref (ga K "OtherPlan")) "__init__" = some (some (.ref (ma K (ga K "OtherPlan") "__init__"))))
def q255 (K : PySem.W.Frag) : Bool := decide (PySem.W.typeIn K (.ref (ma K (ga K "OtherPlan") "__init__")) = some (.type "function"))
def q256 (K : PySem.W.Frag) : Bool := decide (PySem.W.findIn K (.ref (ga K "OtherMap")) "__init__" = some (some (.ref (ma K (ga K "OtherMap") "__init__"))))
def q257 (K : PySem.W.Frag) : Bool := decide (PySem.W.typeIn K (.ref (ma K (ga K "OtherMap") "__init__")) = some (.type "function"))
def q258 (K : PySem.W.Frag) : Bool := decide (PySem.W.findIn K (.ref (ga K "NoNeighbour")) "__init__" = some (some (.ref (ma K (ga K "NoNeighbour") "__init__"))))
def q259 (K : PySem.W.Frag) : Bool := decide (PySem.W.typeIn K (.ref (ma K (ga K "NoNeighbour") "__init__")) = some (.type "function"))
def q260 (K : PySem.W.Frag) : Bool := decide (PySem.W.findIn K (.ref (ga K "TooMany")) "__init__" = some (some (.ref (ma K (ga K "TooMany") "__init__"))))
def q261 (K : PySem.W.Frag) : Bool := decide (PySem.W.typeIn K (.ref (ma K (ga K "TooMany") "__init__")) = some (.type "function"))
def q262 (K : PySem.W.Frag) : Bool := decide (PySem.W.nsIn K mainGlobals "_law_named" = some (some (.ref (ga K "_law_named"))))
def q263 (K : PySem.W.Frag) : Bool := decide (PySem.W.nsIn K mainGlobals "_law_kept" = some (some (.ref (ga K "_law_kept"))))
def q264 (K : PySem.W.Frag) : Bool := decide (PySem.W.nsIn K mainGlobals "_law_flags" = some (some (.ref (ga K "_law_flags"))))
def q265 (K : PySem.W.Frag) : Bool := decide (PySem.W.nsIn K mainGlobals "_law_grounds" = some (some (.ref (ga K "_law_grounds"))))
def q266 (K : PySem.W.Frag) : Bool := decide (PySem.W.nsIn K mainGlobals "_law_ground" = some (some (.ref (ga K "_law_ground"))))
def q267 (K : PySem.W.Frag) : Bool := decide (PySem.W.nsIn K mainGlobals "_law_width" = some (some (.ref (ga K "_law_width"))))
def q268 (K : PySem.W.Frag) : Bool := decide (PySem.W.nsIn K mainGlobals "_law_due_grounds" = some (some (.ref (ga K "_law_due_grounds"))))
def d_law : DM := ⟨fun K => (ga K "law"), "law", "law", top 60, []⟩
def d_pot : DM := ⟨fun K => (ga K "_law_pot"), "_law_pot", "_law_pot", top 48, []⟩
def d_right : DM := ⟨fun K => (ga K "_law_right"), "_law_right", "_law_right", top 59, []⟩
def d_pick : DM := ⟨fun K => (ga K "_law_pick"), "_law_pick", "_law_pick", top 50, []⟩
def d_draw : DM := ⟨fun K => (ga K "_law_draw"), "_law_draw", "_law_draw", top 49, []⟩
def d_all : DM := ⟨fun K => (ga K "_law_all"), "_law_all", "_law_all", top 51, []⟩
def d_eInvalidNumber : DM := ⟨fun K => (ma K (ga K "InvalidNumber") "__init__"), "__init__", "InvalidNumber.__init__", inClass (top 2) 0, []⟩
def d_eInvalidPhase : DM := ⟨fun K => (ma K (ga K "InvalidPhase") "__init__"), "__init__", "InvalidPhase.__init__", inClass (top 4) 0, []⟩
def d_eInvalidSign : DM := ⟨fun K => (ma K (ga K "InvalidSign") "__init__"), "__init__", "InvalidSign.__init__", inClass (top 5) 0, []⟩
def d_eInvalidPair : DM := ⟨fun K => (ma K (ga K "InvalidPair") "__init__"), "__init__", "InvalidPair.__init__", inClass (top 6) 0, []⟩
def d_eInvalidLength : DM := ⟨fun K => (ma K (ga K "InvalidLength") "__init__"), "__init__", "InvalidLength.__init__", inClass (top 7) 0, []⟩
def d_eInvalidClosed : DM := ⟨fun K => (ma K (ga K "InvalidClosed") "__init__"), "__init__", "InvalidClosed.__init__", inClass (top 8) 0, []⟩
def d_eInvalidAxis : DM := ⟨fun K => (ma K (ga K "InvalidAxis") "__init__"), "__init__", "InvalidAxis.__init__", inClass (top 9) 0, []⟩
def d_eInvalidName : DM := ⟨fun K => (ma K (ga K "InvalidName") "__init__"), "__init__", "InvalidName.__init__", inClass (top 10) 0, []⟩
def d_eInvalidPlace : DM := ⟨fun K => (ma K (ga K "InvalidPlace") "__init__"), "__init__", "InvalidPlace.__init__", inClass (top 11) 0, []⟩
def d_eInvalidKind : DM := ⟨fun K => (ma K (ga K "InvalidKind") "__init__"), "__init__", "InvalidKind.__init__", inClass (top 12) 0, []⟩
def d_eInvalidDirection : DM := ⟨fun K => (ma K (ga K "InvalidDirection") "__init__"), "__init__", "InvalidDirection.__init__", inClass (top 13) 0, []⟩
def d_eInvalidMove : DM := ⟨fun K => (ma K (ga K "InvalidMove") "__init__"), "__init__", "InvalidMove.__init__", inClass (top 14) 0, []⟩
def d_eInvalidEdges : DM := ⟨fun K => (ma K (ga K "InvalidEdges") "__init__"), "__init__", "InvalidEdges.__init__", inClass (top 15) 0, []⟩
def d_eInvalidBegins : DM := ⟨fun K => (ma K (ga K "InvalidBegins") "__init__"), "__init__", "InvalidBegins.__init__", inClass (top 17) 0, []⟩
def d_eInvalidEntry : DM := ⟨fun K => (ma K (ga K "InvalidEntry") "__init__"), "__init__", "InvalidEntry.__init__", inClass (top 18) 0, []⟩
def d_eInvalidReach : DM := ⟨fun K => (ma K (ga K "InvalidReach") "__init__"), "__init__", "InvalidReach.__init__", inClass (top 19) 0, []⟩
def d_eInvalidDistance : DM := ⟨fun K => (ma K (ga K "InvalidDistance") "__init__"), "__init__", "InvalidDistance.__init__", inClass (top 20) 0, []⟩
def d_eInvalidLooks : DM := ⟨fun K => (ma K (ga K "InvalidLooks") "__init__"), "__init__", "InvalidLooks.__init__", inClass (top 22) 0, []⟩
def d_eInvalidPlaces : DM := ⟨fun K => (ma K (ga K "InvalidPlaces") "__init__"), "__init__", "InvalidPlaces.__init__", inClass (top 23) 0, []⟩
def d_eInvalidWord : DM := ⟨fun K => (ma K (ga K "InvalidWord") "__init__"), "__init__", "InvalidWord.__init__", inClass (top 24) 0, []⟩
def d_eInvalidTarget : DM := ⟨fun K => (ma K (ga K "InvalidTarget") "__init__"), "__init__", "InvalidTarget.__init__", inClass (top 25) 0, []⟩
def d_eInvalidState : DM := ⟨fun K => (ma K (ga K "InvalidState") "__init__"), "__init__", "InvalidState.__init__", inClass (top 26) 0, []⟩
def d_eInvalidRule : DM := ⟨fun K => (ma K (ga K "InvalidRule") "__init__"), "__init__", "InvalidRule.__init__", inClass (top 27) 0, []⟩
def d_eInvalidTable : DM := ⟨fun K => (ma K (ga K "InvalidTable") "__init__"), "__init__", "InvalidTable.__init__", inClass (top 28) 0, []⟩
def d_eInvalidMap : DM := ⟨fun K => (ma K (ga K "InvalidMap") "__init__"), "__init__", "InvalidMap.__init__", inClass (top 29) 0, []⟩
def d_eInvalidPlan : DM := ⟨fun K => (ma K (ga K "InvalidPlan") "__init__"), "__init__", "InvalidPlan.__init__", inClass (top 30) 0, []⟩
def d_eInvalidGauge : DM := ⟨fun K => (ma K (ga K "InvalidGauge") "__init__"), "__init__", "InvalidGauge.__init__", inClass (top 31) 0, []⟩
def d_eInvalidClaim : DM := ⟨fun K => (ma K (ga K "InvalidClaim") "__init__"), "__init__", "InvalidClaim.__init__", inClass (top 33) 0, []⟩
def d_eInvalidCommand : DM := ⟨fun K => (ma K (ga K "InvalidCommand") "__init__"), "__init__", "InvalidCommand.__init__", inClass (top 34) 0, []⟩
def d_eInvalidRounds : DM := ⟨fun K => (ma K (ga K "InvalidRounds") "__init__"), "__init__", "InvalidRounds.__init__", inClass (top 3) 0, []⟩
def d_eInvalidStates : DM := ⟨fun K => (ma K (ga K "InvalidStates") "__init__"), "__init__", "InvalidStates.__init__", inClass (top 16) 0, []⟩
def d_eInvalidMoves : DM := ⟨fun K => (ma K (ga K "InvalidMoves") "__init__"), "__init__", "InvalidMoves.__init__", inClass (top 21) 0, []⟩
def d_eInvalidText : DM := ⟨fun K => (ma K (ga K "InvalidText") "__init__"), "__init__", "InvalidText.__init__", inClass (top 32) 0, []⟩
def d_eUnknownWord : DM := ⟨fun K => (ma K (ga K "UnknownWord") "__init__"), "__init__", "UnknownWord.__init__", inClass (top 36) 0, []⟩
def d_eCommandFailed : DM := ⟨fun K => (ma K (ga K "CommandFailed") "__init__"), "__init__", "CommandFailed.__init__", inClass (top 44) 0, []⟩
def d_eNotBalanced : DM := ⟨fun K => (ma K (ga K "NotBalanced") "__init__"), "__init__", "NotBalanced.__init__", inClass (top 39) 0, []⟩
def d_eOtherPlan : DM := ⟨fun K => (ma K (ga K "OtherPlan") "__init__"), "__init__", "OtherPlan.__init__", inClass (top 40) 0, []⟩
def d_eOtherMap : DM := ⟨fun K => (ma K (ga K "OtherMap") "__init__"), "__init__", "OtherMap.__init__", inClass (top 41) 0, []⟩
def d_eNoNeighbour : DM := ⟨fun K => (ma K (ga K "NoNeighbour") "__init__"), "__init__", "NoNeighbour.__init__", inClass (top 42) 0, []⟩
def d_eTooMany : DM := ⟨fun K => (ma K (ga K "TooMany") "__init__"), "__init__", "TooMany.__init__", inClass (top 46) 0, []⟩
def d_named : DM := ⟨fun K => (ga K "_law_named"), "_law_named", "_law_named", top 52, []⟩
def d_kept : DM := ⟨fun K => (ga K "_law_kept"), "_law_kept", "_law_kept", top 53, []⟩
def d_flags : DM := ⟨fun K => (ga K "_law_flags"), "_law_flags", "_law_flags", top 54, []⟩
def d_grounds : DM := ⟨fun K => (ga K "_law_grounds"), "_law_grounds", "_law_grounds", top 55, []⟩
def d_ground : DM := ⟨fun K => (ga K "_law_ground"), "_law_ground", "_law_ground", top 56, []⟩
def d_width : DM := ⟨fun K => (ga K "_law_width"), "_law_width", "_law_width", top 58, []⟩
def d_dueg : DM := ⟨fun K => (ga K "_law_due_grounds"), "_law_due_grounds", "_law_due_grounds", top 57, []⟩
def fcsA0 : List (PySem.W.Frag → Bool) := [q0, q1, q2, q3, q4, q5, q6, q7, q8, q9, q10, q11, q12, q13, q14, q15, q16, q17, q18, q19, q20, q21, q22, q23, q24, q25, q26, q27, q28, q29]
def fcsA1 : List (PySem.W.Frag → Bool) := [q30, q31, q32, q33, q34, q35, q36, q37, q38, q39, q40, q41, q42, q43]
def fcsA : List (PySem.W.Frag → Bool) := fcsA0 ++ (fcsA1)
def fcsB0 : List (PySem.W.Frag → Bool) := [q44, q45, q46, q47, q48, q49, q50, q51, q52, q53, q54, q55, q56, q57, q58, q59, q60, q61, q62, q63, q64, q65, q66, q67, q68, q69, q70, q71, q72, q73]
def fcsB1 : List (PySem.W.Frag → Bool) := [q74, q75, q76, q77, q78, q79, q80, q81, q82, q83, q84, q85, q86, q87, q88]
def fcsB : List (PySem.W.Frag → Bool) := fcsB0 ++ (fcsB1)
def fcsC0 : List (PySem.W.Frag → Bool) := [q89, q90, q91, q92, q93, q94, q95, q96, q97, q98, q99, q100, q101, q102, q103, q104, q105, q106, q107, q108, q109, q110, q111, q112, q113, q114, q115, q116, q117, q118]
def fcsC1 : List (PySem.W.Frag → Bool) := [q119, q120, q121, q122, q123, q124, q125, q126, q127, q128, q129, q130, q131, q132, q133]
def fcsC : List (PySem.W.Frag → Bool) := fcsC0 ++ (fcsC1)
def fcsD0 : List (PySem.W.Frag → Bool) := [q134, q135, q136, q137, q138, q139, q140, q141, q142, q143, q144, q145, q146, q147, q148, q149, q150, q151, q152, q153, q154, q155, q156, q157, q158, q159, q160, q161, q162, q163]
def fcsD1 : List (PySem.W.Frag → Bool) := [q164, q165, q166, q167, q168, q169, q170, q171, q172, q173, q174, q175, q176, q177, q178]
def fcsD : List (PySem.W.Frag → Bool) := fcsD0 ++ (fcsD1)
def fcsE0 : List (PySem.W.Frag → Bool) := [q179, q180, q181, q182, q183, q184, q185, q186, q187, q188, q189, q190, q191, q192, q193, q194, q195, q196, q197, q198, q199, q200, q201, q202, q203, q204, q205, q206, q207, q208]
def fcsE1 : List (PySem.W.Frag → Bool) := [q209, q210, q211, q212, q213, q214, q215, q216, q217, q218, q219, q220, q221, q222, q223]
def fcsE : List (PySem.W.Frag → Bool) := fcsE0 ++ (fcsE1)
def fcsF0 : List (PySem.W.Frag → Bool) := [q224, q225, q226, q227, q228, q229, q230, q231, q232, q233, q234, q235, q236, q237, q238, q239, q240, q241, q242, q243, q244, q245, q246, q247, q248, q249, q250, q251, q252, q253]
def fcsF1 : List (PySem.W.Frag → Bool) := [q254, q255, q256, q257, q258, q259, q260, q261, q262, q263, q264, q265, q266, q267, q268]
def fcsF : List (PySem.W.Frag → Bool) := fcsF0 ++ (fcsF1)
def fcs : List (PySem.W.Frag → Bool) := fcsA ++ fcsB ++ fcsC ++ fcsD ++ fcsE ++ fcsF
def dfsA0 : List (DM) := [d_law, d_pot, d_right, d_pick, d_draw, d_all, d_eInvalidNumber, d_eInvalidPhase]
def dfsA : List (DM) := dfsA0
def dfsB0 : List (DM) := [d_eInvalidSign, d_eInvalidPair, d_eInvalidLength, d_eInvalidClosed, d_eInvalidAxis, d_eInvalidName, d_eInvalidPlace, d_eInvalidKind, d_eInvalidDirection]
def dfsB : List (DM) := dfsB0
def dfsC0 : List (DM) := [d_eInvalidMove, d_eInvalidEdges, d_eInvalidBegins, d_eInvalidEntry, d_eInvalidReach, d_eInvalidDistance, d_eInvalidLooks, d_eInvalidPlaces, d_eInvalidWord]
def dfsC : List (DM) := dfsC0
def dfsD0 : List (DM) := [d_eInvalidTarget, d_eInvalidState, d_eInvalidRule, d_eInvalidTable, d_eInvalidMap, d_eInvalidPlan, d_eInvalidGauge, d_eInvalidClaim, d_eInvalidCommand]
def dfsD : List (DM) := dfsD0
def dfsE0 : List (DM) := [d_eInvalidRounds, d_eInvalidStates, d_eInvalidMoves, d_eInvalidText, d_eUnknownWord, d_eCommandFailed, d_eNotBalanced, d_eOtherPlan, d_eOtherMap]
def dfsE : List (DM) := dfsE0
def dfsF0 : List (DM) := [d_eNoNeighbour, d_eTooMany, d_named, d_kept, d_flags, d_grounds, d_ground, d_width, d_dueg]
def dfsF : List (DM) := dfsF0
def dfs : List (DM) := dfsA ++ dfsB ++ dfsC ++ dfsD ++ dfsE ++ dfsF
def nms0 : List Str := ["CellError", "InvalidNumber", "InvalidRounds", "InvalidPhase", "InvalidSign", "InvalidPair", "InvalidLength", "InvalidClosed", "InvalidAxis", "InvalidName", "InvalidPlace", "InvalidKind", "InvalidDirection", "InvalidMove", "InvalidEdges", "InvalidStates", "InvalidBegins", "InvalidEntry", "InvalidReach", "InvalidDistance"]
def nms1 : List Str := ["InvalidMoves", "InvalidLooks", "InvalidPlaces", "InvalidWord", "InvalidTarget", "InvalidState", "InvalidRule", "InvalidTable", "InvalidMap", "InvalidPlan", "InvalidGauge", "InvalidText", "InvalidClaim", "InvalidCommand", "MissingError", "UnknownWord", "StateError", "DividedByZero", "NotBalanced", "OtherPlan"]
def nms2 : List Str := ["OtherMap", "NoNeighbour", "NothingToUndo", "CommandFailed", "LimitError", "TooMany", "_law_pot", "_law_draw", "_law_pick", "_law_all", "_law_named", "_law_kept", "_law_flags", "_law_grounds", "_law_ground", "_law_due_grounds", "_law_width", "_law_right"]
def nms : List Str := nms0 ++ nms1 ++ nms2
abbrev Ro : PySem.W.OpenRow := PySem.W.OpenLaw.row PySem.Challenge.rw_movecells_k18_errors_made
abbrev hkM : PySem.W.Hook := hookM 0 fcs dfs
theorem topRunsA (w : World) : HandSHeadRun.RunEq Ro (PySem.W.view Ro.prog [60]) (hookM 0 fcsA dfsA) (seeM 0 fcsA dfsA) 60000 nms w := by
  intro os
  kernel_rfl
theorem topRunsB (w : World) : HandSHeadRun.RunEq Ro (PySem.W.view Ro.prog [60]) (hookM 0 fcsB dfsB) (seeM 0 fcsB dfsB) 60000 nms w := by
  intro os
  kernel_rfl
theorem topRunsC (w : World) : HandSHeadRun.RunEq Ro (PySem.W.view Ro.prog [60]) (hookM 0 fcsC dfsC) (seeM 0 fcsC dfsC) 60000 nms w := by
  intro os
  kernel_rfl
theorem topRunsD (w : World) : HandSHeadRun.RunEq Ro (PySem.W.view Ro.prog [60]) (hookM 0 fcsD dfsD) (seeM 0 fcsD dfsD) 60000 nms w := by
  intro os
  kernel_rfl
theorem topRunsE (w : World) : HandSHeadRun.RunEq Ro (PySem.W.view Ro.prog [60]) (hookM 0 fcsE dfsE) (seeM 0 fcsE dfsE) 60000 nms w := by
  intro os
  kernel_rfl
theorem topRunsF (w : World) : HandSHeadRun.RunEq Ro (PySem.W.view Ro.prog [60]) (hookM 0 fcsF dfsF) (seeM 0 fcsF dfsF) 60000 nms w := by
  intro os
  kernel_rfl
theorem topRuns (w : World) : HandSHeadRun.RunEq Ro (PySem.W.view Ro.prog [60]) hkM (seeM 0 fcs dfs) 60000 nms w := (runs_two (runs_two (runs_two (runs_two (runs_two (topRunsA w) (topRunsB w)) (topRunsC w)) (topRunsD w)) (topRunsE w)) (topRunsF w))
end T0
set_option Elab.async false
set_option maxRecDepth 100000
set_option maxHeartbeats 4000000
namespace T0
open PySem L2 Mv
open He (ga ma)
theorem t_name : (HandSHeadRun.topDef Ro.prog 60).name = ("law" : PySem.Str) := by kernel_rfl
theorem t_dfl : (HandSHeadRun.topDef Ro.prog 60).params.defaults = [] := by kernel_rfl
open PySem PySem.W PySem.Calls PyProof.Rows in
set_option maxHeartbeats 0 in
/-- the looks at the law itself, ahead of all else (they want the memory) -/
theorem early (hc : PySem.W.WalkO (PySem.W.view Ro.prog [60]) nms (PySem.W.XL (PySem.W.view Ro.prog [60]) []) hkM.says Ro.toRowW (HandSHeadRun.topDef Ro.prog 60) [] (fun f vs => PySem.call f vs)) : PySem.Challenge.rw_movecells_k18_errors_made.Holds := by
  w_on; o_law
  refine HandSHeadRun.head_any (r := Ro) (q := view Ro.prog [60]) (H := hkM) (ob := Mv.seeM 0 fcs dfs) (M := 60000) (loose := nms) (d := HandSHeadRun.topDef Ro.prog 60) (kwd := []) (fun s => Mv.seeM_eq s)
    (by kernel_rfl) (fun s => by kernel_rfl) topRuns (by kernel_rfl) (by kernel_rfl) (by kernel_rfl) (by rfl) (by first | assumption | decide +kernel) (by decide +kernel) ⟨rfl, rfl, rfl, rfl, rfl, by decide +kernel⟩ ?hw hc
  case hw => w_witness2
end T0
set_option Elab.async false
set_option maxRecDepth 100000
set_option maxHeartbeats 4000000
namespace Mv
open PySem PySem.Spec PyProof.Rows L2
section
variable {X : Cx}
/-- // by any divisor but 0 below 2 ^ 9000 -/
def CDivX (_ j : Int) : Prop := j ≠ 0 ∧ j.natAbs.log2 < 9000
theorem op_fdivX : OpR X (binaryOp .FloorDiv) (rI CDivX fun i j => .int (i.fdiv j)) := opI fun i j _ _ _ _ _ hc q => by
  exact floordiv_int hc.1 q (Or.inl (PyProof.noPylong_of_log2 hc.2))
theorem divp_of {i j : Int} (h : 0 < j) (h2 : j.natAbs.log2 < 9000) : CDivP i j := ⟨h, PyProof.noPylong_of_log2 h2⟩
end
/-! ### guards: no repr is running -/
abbrev GA (A : Around) : Prop := A.guards = some []
theorem ga_deeper {A : Around} {env : Env} (h : GA A) : GA (A.deeper env) := h
theorem ga_make {A : Around} (h : GA A) (C : Addr) (us : List Value) (kw : List (Str × Value)) : GA (A.under (.builtin "type.__call__" ⟨.ref C :: us, kw⟩)) := by
  first | exact h | (simpa [GA, Around.under, Code.guards, Code.isGuard, guardIds, pushGuards] using h)
theorem ga_in1 {A : Around} (h : GA A) : GA A.in1 := h
/-- a def that may be called where no repr is running -/
structure FnG (P : Program) (w : World) (K : PySem.W.Frag) (mg : Str → Option Value) (base : Heap) (k : Nat) (f : Addr) (fd : FuncData) (ps : List Str) (sp : Sp) : Prop where
  len : ∀ vs H Q E, sp vs H Q E → vs.length = ps.length
  run : ∀ (A : Around) (outer : List Env) (s : Shared) (H : Hp) (args : Args) (us : List Value) (vs : List V) (Q : VK) (E : XK), Room k A → GA A → Env0 P w K mg base A outer s H → BindsTo s fd args (ps.zip us) → Vals vs us → sp vs H Q E →
    codeAny (model P w) A (.call (.ref f) args) (CR CX0 outer P w H s Q E) s
theorem FnG.of {P : Program} {w : World} {K : PySem.W.Frag} {mg : Str → Option Value} {base : Heap} {k : Nat} {f : Addr} {fd : FuncData} {ps : List Str} {sp : Sp} (F : FnOk P w K mg base CX0 k f fd ps sp) : FnG P w K mg base k f fd ps sp :=
  ⟨F.len, fun A outer s H args us vs Q E hr _ => F.run A outer s H args us vs Q E hr⟩
theorem FnG.mono {P : Program} {w : World} {K : PySem.W.Frag} {mg : Str → Option Value} {base : Heap} {j k : Nat} {f : Addr} {fd : FuncData} {ps : List Str} {sp : Sp} (F : FnG P w K mg base j f fd ps sp) (h : j ≤ k) : FnG P w K mg base k f fd ps sp :=
  ⟨F.len, fun A outer s H args us vs Q E hr => F.run A outer s H args us vs Q E (hr.mono h)⟩
section
variable {X : Cx} {k : Nat} {f C : Addr} {fd : FuncData} {ps ks : List Str} {sp : Sp} {dvs : List V} {ds : List Value} {x m : Str} {p pos apos : Pos} {e o : Expr} {es : List Expr} {kws : List Keyword} {ta : TE} {t tk : TA}
  {g : List Value → List Value → List Value} {gV : List V → List V → List V}
theorem run_fng {pins : List (Addr × Obj)} {σ : L2.St} {H : Hp} {s : Shared} {Q : VK} {us : List Value} {vs : List V} (F : FnG X.prog X.w X.K X.mg X.base k f fd ps sp) (hr : Room k X.A) (ga : GA X.A) (hb : Binds X.K fd ps ds) (hd : Vals dvs ds)
    (I : Inv X pins σ H s) (r : Vals vs us) (h : sp (vs ++ dvs) H Q E0) : wpAny (model X.prog X.w) X.A (call (.ref f) us) (EP X pins σ Q) X.xe s := by
  have r2 : Vals (vs ++ dvs) (us ++ ds) := r.append hd
  have hl : (us ++ ds).length = ps.length := by rw [← r2.length]; exact F.len _ _ _ _ h
  refine wpAny_call (codeAny_mono (F.run X.A X.stack s H ⟨us, []⟩ (us ++ ds) (vs ++ dvs) Q E0 hr ga I.env0 (hb s us I.kIn hl) r2 h) fun r s' hq => ?_)
  cases r with
  | error e => exact False.elim hq
  | ok fl =>
    cases fl with
    | ret u => exact I.after hq
    | next => exact False.elim hq
    | brk => exact False.elim hq
    | cont => exact False.elim hq
theorem run_fngk {pins : List (Addr × Obj)} {σ : L2.St} {H : Hp} {s : Shared} {Q : VK} {us ws : List Value} {vs zs : List V} (F : FnG X.prog X.w X.K X.mg X.base k f fd ps sp) (hr : Room k X.A) (ga : GA X.A) (hb : KBinds X.K fd ps ks g gV)
    (I : Inv X pins σ H s) (r : Vals vs us) (rz : Vals zs ws) (h : sp (gV vs zs) H Q E0) : wpAny (model X.prog X.w) X.A (call (.ref f) us (ks.zip ws)) (EP X pins σ Q) X.xe s := by
  have r2 := hb.rel r rz
  have hl : (g us ws).length = ps.length := by rw [← r2.length]; exact F.len _ _ _ _ h
  refine wpAny_call (codeAny_mono (F.run X.A X.stack s H ⟨us, ks.zip ws⟩ (g us ws) (gV vs zs) Q E0 hr ga I.env0 (hb.to s us ws I.kIn hl) r2 h) fun r s' hq => ?_)
  cases r with
  | error e => exact False.elim hq
  | ok fl =>
    cases fl with
    | ret u => exact I.after hq
    | next => exact False.elim hq
    | brk => exact False.elim hq
    | cont => exact False.elim hq
end
/-- a def of the module, by its name -/
structure Cg (P : Program) (w : World) (K : PySem.W.Frag) (mg : Str → Option Value) (base : Heap) (k : Nat) (x : Str) (ps : List Str) (sp : Sp) (dvs : List V) : Prop where
  ex : ∃ (f : Addr) (fd : FuncData) (ds : List Value), FnG P w K mg base k f fd ps sp ∧ mg x = some (.ref f) ∧ PySem.W.keepIn K (.ref f) = true ∧ Binds K fd ps ds ∧ Vals dvs ds
section
variable {X : Cx} {k j : Nat} {f C : Addr} {fd : FuncData} {ps ks : List Str} {sp : Sp} {dvs : List V} {ds : List Value} {x m : Str} {p pos apos : Pos} {e o : Expr} {es : List Expr} {kws : List Keyword} {ta : TE} {t tk : TA}
theorem pe_g (c : Cg X.prog X.w X.K X.mg X.base k x ps sp dvs) (hr : Room j X.A) (ga : GA X.A) (hk : k ≤ j) (hg : Gl X x) (ha : PA X (e :: es) t)
    (hdb : (x == ("__debug__" : Str)) = false := by decide) (he : starEach (e :: es) X.env = (false, eval e X.env) :: starEach es X.env := by rfl) (hpl : (backTo pos (starEach es X.env)).any (·.1) = false := by rfl) :
    PE X (.Call (.Name x p) (e :: es) [] pos) (tCall sp dvs E0 t) := by
  obtain ⟨f, fd, ds, F, hm, kp, hb, hd⟩ := c.ex
  refine ⟨fun pins s σ H Q I h => ?_⟩
  refine wpAny_Call_Name_kw (ld_glob I hg hm ?_ hdb)
  exact PySem.W.callWith_K (h₀ := X.base) I.ok.mod.kin kp (thn (ha.run pos pins s σ H _ I h) fun us s1 ⟨vs, H1, I1, r, q⟩ => ⟨I1.kIn, run_fng F (hr.mono hk) ga hb hd I1 r q⟩) he hpl
theorem pe_g0 (c : Cg X.prog X.w X.K X.mg X.base k x ps sp dvs) (hr : Room j X.A) (ga : GA X.A) (hk : k ≤ j) (hg : Gl X x) (hdb : (x == ("__debug__" : Str)) = false := by decide) : PE X (.Call (.Name x p) [] [] pos) (tCall sp dvs E0 tNil) := by
  obtain ⟨f, fd, ds, F, hm, kp, hb, hd⟩ := c.ex
  refine ⟨fun pins s σ H Q I h => ?_⟩
  refine wpAny_Call_Name_kw (ld_glob I hg hm ?_ hdb)
  exact PySem.W.callWith_K0 I.kIn kp (run_fng (us := []) F (hr.mono hk) ga hb hd I .nil h)
end
section
variable {P : Program} {w : World} {K : PySem.W.Frag} {mg : Str → Option Value} {base : Heap}
/-- THE RULE for a def where no repr is running -/
theorem fng_of {k : Nat} {f : Addr} {name qual : Str} {params : Arguments} {body : List Stmt} {scope : Scope} {dV kV doc pm cdv ct oc : Value} {an od : Option Addr}
    {osl : Array (Option Value)} {N ps : List Str} {sp : Sp} (lk : K.lookup f = some ⟨oc, od, .func (PySem.W.fnOf name qual params body scope dV kV doc pm an cdv ct), osl⟩) (hcd : PySem.W.codeIn K cdv qual = true) (S : FnScope N ps scope)
    (len : ∀ vs H Q E, sp vs H Q E → vs.length = ps.length)
    (hbody : ∀ (A : Around) (outer : List Env) (s : Shared) (H : Hp) (vs : List V) (Q : VK) (E : XK), Room k (A.deeper (envOfC qual scope s.heap.objs.size f cdv)) → GA (A.deeper (envOfC qual scope s.heap.objs.size f cdv)) → sp vs H Q E →
      ∃ t, PSs (cxOf CX0 P w K mg base N qual scope f cdv A outer s H E) body t ∧ t { nx := fun _ H' => Q .non H', rt := Q } (start N vs) H) :
    FnG P w K mg base (k + 1) f (PySem.W.fnOf name qual params body scope dV kV doc pm an cdv ct) ps sp := by
  refine ⟨len, fun A outer s H args us vs Q E hr ga e0 hb r hsp => ?_⟩
  have hl := len _ _ _ _ hsp
  have KX : K.In s.heap := e0.mod.kin.keeps fun b o e => (e0.bs b o e).1
  have lim : s.heap.NoLimit := e0.mod.nolimit.keeps fun b o e => (e0.bs b o e).1
  have hkind : ∀ y ∈ ps.zip us, scope.names.lookup y.1 = some .local ∨ (scope.names.lookup y.1 = some .cell ∧ ((cellsFrom (s.heap.objs.size + 1) scope.names []).lookup y.1).isSome = true) := fun ⟨n, v⟩ hy => by
    rcases S.par n (List.of_mem_zip hy).1 with q | q
    · exact .inl q
    · exact .inr ⟨q, PySem.W.cellsFrom_some _ _ _ (.inl q)⟩
  refine codeAny_call_function hr.depth (KX _ _ lk) rfl S.co S.gen rfl (PySem.W.codeRec_of KX hcd) (hb _ _ _ _ ?_)
  refine wpAny_newFunctionEnv_cells S.kind hkind fun env he s1 x => ?_
  subst he
  refine ⟨lim.keeps x.toInCall.keep, codeAny_func ?_⟩
  obtain ⟨t, ht, hq⟩ := hbody A outer s H vs Q E (hr.deeper _) (ga_deeper ga) hsp
  have I : Inv (cxOf CX0 P w K mg base N qual scope f cdv A outer s H E) [] (start N vs) H s1 := inv_start S hr.hd e0 hl r x
  refine wpAny_mono (ht.run [] s1 (start N vs) H _ I hq) (fun fl s' hs => ?_) fun e s' hs => hs
  have fin : ∀ {σ' : L2.St} {H' : Hp} {v : V} {u : Value}, Inv (cxOf CX0 P w K mg base N qual scope f cdv A outer s H E) [] σ' H' s' → RelV v u → Q v H' → CE outer P w H s Q u s' :=
    fun {σ' H' v u} J rv q => ⟨v, H', J.os, J.bare, J.base, J.hok, rv, q⟩
  cases fl with
  | ret u =>
    obtain ⟨v, σ', H', J, rv, q⟩ := hs
    exact fin J rv q
  | next =>
    obtain ⟨σ', H', J, q⟩ := hs
    exact fin (v := V.non) (u := Value.none) J rfl q
  | brk =>
    obtain ⟨_, _, _, q⟩ := hs
    exact False.elim q
  | cont =>
    obtain ⟨_, _, _, q⟩ := hs
    exact False.elim q
theorem okG {x qual : Str} {st : Stmt} {f : Addr} {fd : FuncData} {N ps : List Str} {k : Nat} {sp : Sp} (F : Fun K x qual st f fd) (S : FnScope N ps (defScope st)) (len : ∀ vs H Q E, sp vs H Q E → vs.length = ps.length)
    (hbody : ∀ (cdv : Value) (A : Around) (outer : List Env) (s : Shared) (H : Hp) (vs : List V) (Q : VK) (E : XK), Room k (A.deeper (envOfC qual (defScope st) s.heap.objs.size f cdv)) → GA (A.deeper (envOfC qual (defScope st) s.heap.objs.size f cdv)) → sp vs H Q E →
      ∃ t, PSs (cxOf CX0 P w K mg base N qual (defScope st) f cdv A outer s H E).nox (defBody st) t ∧ t { nx := fun _ H' => Q .non H', rt := Q } (start N vs) H) : FnG P w K mg base (k + 1) f fd ps sp := by
  obtain ⟨oc, od, kV, doc, pm, an, cdv, ct, osl, rfl, lk, hcd⟩ := F.ex
  refine fng_of lk hcd S len fun A outer s H vs Q E hr ga hsp => ?_
  obtain ⟨t, h, q⟩ := hbody cdv A outer s H vs Q E hr ga hsp
  exact ⟨t, h.nox, q⟩
end
end Mv
set_option Elab.async false
set_option maxRecDepth 100000
set_option maxHeartbeats 4000000
namespace PySem.W
open PySem PySem.Spec PySem.Calls PyProof.Rows
section
variable {prog : Program} {w : World} {A : Around} {E : Value → Shared → Prop} {s : Shared} {K : Frag} {x C f : Addr} {ox : Obj} {od : Option Obj} {b tb : Value}
/-- x != b by object.__ne__ over an own __eq__ -/
theorem mv_ne {Q : Value → Shared → Prop} (hu : A.units + 1 < cLine) (X : K.In s.heap) (I : InstAt s.heap x ox C od) (hb : Looks (model prog w) s.heap (typeOf b) tb) (hn : notFirst K C tb = true)
    (hne : findIn K (.ref C) "__ne__" = some (some (.builtin "object.__ne__"))) (hm : mroIn K C (.type "object") = some true) (hs : findIn K (.ref C) "__eq__" = some (some (.ref f))) (hf : isFn K (.ref f) = true)
    (h : wpAny (model prog w) A.in1 (call (.ref f) [.ref x, b]) (fun v s' => ∃ k, v = .bool k ∧ Q (.bool (!k)) s') E s) : wpAny (model prog w) A (richCompare .NotEq (.ref x) b) Q E s := by
  have one : wpAny (model prog w) A (tryCompare (.ref x) "__ne__" b) (fun r s' => ∃ v, r = some v ∧ Q v s') E s := by
    unfold tryCompare
    have inner : wpAny (model prog w) A (call (.builtin "object.__ne__") [.ref x, b]) (fun v s' => ∃ k, v = .bool k ∧ Q v s') E s := by
      refine wpAny_call (codeAny_call_builtin PySem.F.cmp_object.ne.plain PySem.F.cmpEntry_ne (check_slot (i := "object.__ne__") (owner := "object") (n := "__ne__") (by decide +kernel) (by decide +kernel) (I.type.andThen (looks_mroIn X hm)) (PySem.F.cmpArgs_ne _ _) ?_))
      unfold Builtin.«object.__ne__»
      refine wpAny_bind (m := slotArgs "__ne__" 1 _) (wpAny_pure ?_)
      refine wpAny_bind (m := cRoomFor _ _) (wpAny_cRoomFor hu ?_)
      refine wpAny_bind (m := callSpecialIfBound? (.ref x) (Str.ofString "__eq__") _) (ifBound_K X I hs hf (wpAny_mono h (fun r s' hq => ?_) fun _ _ y => y))
      obtain ⟨k, rfl, hq⟩ := hq
      exact wpAny_bind (wpAny_truthy_bool (wpAny_pure ⟨_, rfl, hq⟩))
    have sp : wpAny (model prog w) A (callSpecialIfBound? (.ref x) "__ne__" [b]) (fun r s' => ∃ k, r = some (.bool k) ∧ Q (.bool k) s') E s := by
      simp only [callSpecialIfBound?, bindSpecialIfBound?]
      refine wpAny_holding (wpAny_bind (wpAny_bind (wpAny_bind (I.type.here ((looks_findIn X hne).here ?_)))))
      simp only [PySem.F.cmp_object.ne.bind]
      refine wpAny_bind (wpAny_askSetting (wpAny_ite ?_))
      have fin : wpAny (model prog w) A (call (.builtin "object.__ne__") ([.ref x] ++ [b]) >>= fun v => pure (some v)) (fun r s' => ∃ k, r = some (.bool k) ∧ Q (.bool k) s') E s :=
        wpAny_bind (wpAny_mono inner (fun v s' h' => by obtain ⟨k, rfl, q⟩ := h'; exact wpAny_pure ⟨k, rfl, q⟩) fun _ _ h' => h')
      split
      · exact wpAny_bind (wpAny_pure (wpAny_pure fin))
      · exact wpAny_tryCatch (wpAny_bind (wpAny_pure (wpAny_pure fin)))
    refine wpAny_bind (wpAny_mono sp (fun r s' hr => ?_) fun _ _ e => e)
    obtain ⟨k, rfl, q⟩ := hr
    exact wpAny_pure ⟨_, rfl, q⟩
  unfold richCompare
  simp only [oneThing_ref]
  refine wpAny_holding (wpAny_bind (wpAny_cRoomFor (by omega) ?_))
  refine wpAny_bind (I.type.here (wpAny_bind (hb.here ?_)))
  split
  · rename_i q
    have e : subIn K tb (.ref C) = some false := by
      rcases Bool.or_eq_true_iff.mp hn with e | e
      · rw [beq_iff_eq.mp e] at q; simp at q
      · exact beq_iff_eq.mp e
    refine wpAny_bind ((looks_subIn X e).here ?_)
    simp only [Bool.false_eq_true, if_false]
    refine wpAny_bind (wpAny_mono one (fun r s' z => ?_) fun _ _ e => e)
    obtain ⟨v, rfl, hq⟩ := z
    exact wpAny_pure hq
  · refine wpAny_bind (wpAny_pure ?_)
    simp only [Bool.false_eq_true, if_false]
    refine wpAny_bind (wpAny_mono one (fun r s' z => ?_) fun _ _ e => e)
    obtain ⟨v, rfl, hq⟩ := z
    exact wpAny_pure hq
end
end PySem.W
namespace Mv
open PySem PySem.Spec PyProof.Rows L2
/-- a def called with the instance and one more, as an operator calls it -/
structure Op2 (P : Program) (w : World) (K : PySem.W.Frag) (mg : Str → Option Value) (base : Heap) (k : Nat) (C : Addr) (m : Str) (sp : Sp) : Prop where
  ex : ∃ (g : Addr) (fd : FuncData) (ps : List Str), FnOk P w K mg base CX0 k g fd ps sp ∧ Binds K fd ps [] ∧ PySem.W.findIn K (.ref C) m = some (some (.ref g)) ∧ PySem.W.isFn K (.ref g) = true
section
variable {X : Cx} {k : Nat} {C : Addr} {sp : Sp}
theorem run_at {A : Around} {pins : List (Addr × Obj)} {σ : L2.St} {H : Hp} {s : Shared} {Q : VK} {us : List Value} {vs : List V} {E' : Value → Shared → Prop} {g : Addr} {fd : FuncData} {ps : List Str} (F : FnOk X.prog X.w X.K X.mg X.base CX0 k g fd ps sp) (hr : Room k A) (hf : A.frames = some X.stack) (hb : Binds X.K fd ps [])
    (I : Inv X pins σ H s) (r : Vals vs us) (h : sp vs H Q E0) : wpAny (model X.prog X.w) A (call (.ref g) us) (EP X pins σ Q) E' s := by
  have hl : (us ++ []).length = ps.length := by rw [List.append_nil, ← r.length]; exact F.len _ _ _ _ h
  have b := hb s us I.kIn hl
  rw [List.append_nil] at b
  have e0 := I.env0
  refine wpAny_call (codeAny_mono (F.run A X.stack s H ⟨us, []⟩ us vs Q E0 hr ⟨hf, e0.mod, e0.bs, e0.bsz, e0.funs, e0.frf, e0.hok, e0.bare⟩ b r h) fun r s' hq => ?_)
  cases r with
  | error e => exact False.elim hq
  | ok fl =>
    cases fl with
    | ret u => exact I.after hq
    | next => exact False.elim hq
    | brk => exact False.elim hq
    | cont => exact False.elim hq
/-- x == y, x an instance of the class at C with an own __eq__ -/
def rEqO (K : PySem.W.Frag) (C : Addr) (sp : Sp) : R2 := fun x y H Q => ∃ a dx fs t, x = .ref a ∧ H a = some (.ins C dx fs) ∧ TyX K H y t ∧ PySem.W.notFirst K C t = true ∧ sp [x, y] H Q E0
def rNeO (K : PySem.W.Frag) (C : Addr) (sp : Sp) : R2 := fun x y H Q => ∃ a dx fs t, x = .ref a ∧ H a = some (.ins C dx fs) ∧ TyX K H y t ∧ PySem.W.notFirst K C t = true ∧ sp [x, y] H (fun v H' => ∃ k, v = .bl k ∧ Q (.bl (!k)) H') E0
theorem op_eqO (c : Op2 X.prog X.w X.K X.mg X.base k C "__eq__" sp) (hr : Room k X.A) : OpR X (compareOp .Eq) (rEqO X.K C sp) := by
  obtain ⟨g, fd, ps, F, hb, hs, hf⟩ := c.ex
  intro pins s σ H x y v u Q I rx ry h
  obtain ⟨a, dx, fs, t, rfl, ea, ty, hn, q⟩ := h
  obtain rfl : v = Value.ref a := rx
  obtain ⟨mA, O, _⟩ := ins_get I.hok ea
  obtain ⟨od, J, _⟩ := O.look
  obtain ⟨m, hF⟩ := I.fr
  obtain ⟨P, kx, hP, _⟩ := kit_of I ry ty
  show wpAny _ _ (richCompare .Eq _ _) _ _ _
  refine PySem.W.cmp_K (op := .Eq) hr.units0 hF I.ok.mod.kin J (kx.ty _ _ I.kIn hP) hn hs hf ?_
  refine wpAny_mono (run_at (vs := [.ref a, y]) F hr I.ok.frames hb I (.cons rfl (.cons ry .nil)) q) (fun w s' z => ?_) fun _ _ x => x
  obtain ⟨z', H', I', rz, qz⟩ := z
  exact SlX.cmpback rz ⟨z', H', I', rz, qz⟩
theorem op_neO (c : Op2 X.prog X.w X.K X.mg X.base k C "__eq__" sp) (hr : Room (k + 1) X.A) (hne : PySem.W.findIn X.K (.ref C) "__ne__" = some (some (.builtin "object.__ne__"))) (hm : PySem.W.mroIn X.K C (.type "object") = some true) :
    OpR X (compareOp .NotEq) (rNeO X.K C sp) := by
  obtain ⟨g, fd, ps, F, hb, hs, hf⟩ := c.ex
  intro pins s σ H x y v u Q I rx ry h
  obtain ⟨a, dx, fs, t, rfl, ea, ty, hn, q⟩ := h
  obtain rfl : v = Value.ref a := rx
  obtain ⟨mA, O, _⟩ := ins_get I.hok ea
  obtain ⟨od, J, _⟩ := O.look
  obtain ⟨P, kx, hP, _⟩ := kit_of I ry ty
  show wpAny _ _ (richCompare .NotEq _ _) _ _ _
  refine PySem.W.mv_ne (by have := hr.units; omega) I.kIn J (kx.ty _ _ I.kIn hP) hn hne hm hs hf ?_
  refine wpAny_mono (run_at (vs := [.ref a, y]) F hr.in1 I.ok.frames hb I (.cons rfl (.cons ry .nil)) q) (fun w s' z => ?_) fun _ _ x => x
  obtain ⟨z', H', I', rz, k', rfl, qz⟩ := z
  obtain rfl : w = Value.bool k' := rz
  exact ⟨k', rfl, .bl _, H', I', rfl, qz⟩
/-- repr(x), x an instance with an own __repr__ -/
def rReprO (C : Addr) (sp : Sp) : List V → Hp → VK → Prop := fun xs H Q => ∃ a dx fs, xs = [.ref a] ∧ H a = some (.ins C dx fs) ∧ sp [.ref a] H (fun v H' => ∃ z, v = .str z ∧ Q v H') E0
theorem call_reprO (c : Op2 X.prog X.w X.K X.mg X.base k C "__repr__" sp) (hr : Room (k + 1) X.A) : CallR X (.builtin "repr") (rReprO C sp) := by
  obtain ⟨g, fd, ps, F, hb, hs, hf⟩ := c.ex
  intro pins s σ H xs us Q I r h
  obtain ⟨a, dx, fs, rfl, ea, q⟩ := h
  obtain ⟨u, rfl, ru⟩ := vals1 r
  obtain rfl : u = Value.ref a := ru
  obtain ⟨mA, O, _⟩ := ins_get I.hok ea
  obtain ⟨od, J, _⟩ := O.look
  obtain ⟨m, hF⟩ := I.fr
  refine PySem.W.repr_K (by have := hr.units; show X.A.units + 1 < cLine; omega) hF I.ok.mod.kin J hs hf ?_
  refine wpAny_mono (run_at (vs := [.ref a]) F hr.in1 I.ok.frames hb I (.cons rfl .nil) q) (fun w s' z => ?_) fun _ _ x => x
  obtain ⟨z', H', I', rz, y, rfl, qz⟩ := z
  obtain ⟨tk, rfl⟩ := rz
  exact ⟨.str y, H', I', ⟨_, rfl⟩, qz⟩
/-- str(x), x an instance with an own __str__ -/
theorem call_strO (c : Op2 X.prog X.w X.K X.mg X.base k C "__str__" sp) (hr : Room (k + 2) X.A) : CallR X (.type "str") (rReprO C sp) := by
  obtain ⟨g, fd, ps, F, hb, hs, hf⟩ := c.ex
  intro pins s σ H xs us Q I r h
  obtain ⟨a, dx, fs, rfl, ea, q⟩ := h
  obtain ⟨u, rfl, ru⟩ := vals1 r
  obtain rfl : u = Value.ref a := ru
  obtain ⟨mA, O, _⟩ := ins_get I.hok ea
  obtain ⟨od, J, _⟩ := O.look
  have hr1 : Room (k + 1) X.A.in1 := hr.in1
  have hr2 : Room k X.A.in1.in1 := hr1.in1
  refine PySem.W.kso_call hr2.units0 I.kIn J hs hf ?_
  refine wpAny_mono (run_at (vs := [.ref a]) F hr2 I.ok.frames hb I (.cons rfl .nil) q) (fun w s' z => ?_) fun _ _ x => x
  obtain ⟨z', H', I', rz, y, rfl, qz⟩ := z
  obtain ⟨tk, rfl⟩ := rz
  exact ⟨.str y, H', I', ⟨_, rfl⟩, qz⟩
/-- repr of lists and tuples of data -/
def rReprD (K : PySem.W.Frag) : List V → Hp → VK → Prop := fun xs H Q => ∃ a d, xs = [.ref a] ∧ Dp K H (.ref a) d ∧ d.showable = true ∧ d.hasDict = false ∧ d.depth ≤ 60 ∧ d.shown.length ≤ sizeLine ∧ Q (.str d.shown) H
theorem call_reprD (ga : GA X.A) (hr : Room k X.A) : CallR X (.builtin "repr") (rReprD X.K) := by
  intro pins s σ H xs us Q I r h
  obtain ⟨a, d, rfl, hd, hs, hn, hz, hl, q⟩ := h
  obtain ⟨u, rfl, ru⟩ := vals1 r
  obtain rfl : u = Value.ref a := ru
  obtain ⟨as, rd⟩ := hd.reads I d _ _ rfl
  refine repr_of_reads' rd hs (fun z => absurd z (by rw [hn]; simp)) ga (by have := hr.units; omega) (fun _ _ e => e) (fun h' u tk hk => ?_) hl
  exact ⟨.str _, H, I.kept hk, ⟨_, rfl⟩, q⟩
end
end Mv
set_option Elab.async false
set_option maxRecDepth 100000
set_option maxHeartbeats 4000000
namespace Mv
open PySem PySem.Spec PyProof.Rows L2
theorem loop_frames {A : Around} {args : Args} : (A.under (.builtin "list.__repr__.loop" args)).frames = A.frames := by
  first | rfl | (simp [Around.under, Code.envs, Code.isFrame, pushEnvs])
theorem loop_room {A : Around} {k : Nat} {args : Args} (r : Room (k + 1) A) : Room k (A.under (.builtin "list.__repr__.loop" args)) :=
  ⟨r.hd, by
    have h := r.dp
    have e : (A.under (.builtin "list.__repr__.loop" args)).depth = A.depth + 1 := by
      first | rfl | simp [Around.under, Code.weight, Code.isCreation, Code.isGuard, Code.isCaller, Code.frames, Code.isFrame, guardIds]
    rw [e]; omega, by
    have h := r.un
    rw [units_under_list_loop]; omega⟩
/-- what repr of the value v is where it stands inside lists -/
def RepX (X : Cx) (H : Hp) (k : Nat) (v : V) (t : Str) : Prop :=
  ∀ (A : Around) (base : Nat), Room k A → A.frames = some X.stack → base + t.length ≤ sizeLine →
    ∀ (pins : List (Addr × Obj)) (s : Shared) (σ : L2.St) (u : Value) (Q : Str → Shared → Prop) (E : Value → Shared → Prop), RelV v u → Inv X pins σ H s → (∀ s', Inv X pins σ H s' → Q t s') →
      wpAny (model X.prog X.w) A (pyReprUnder base u) Q E s
section
variable {X : Cx} {k : Nat} {C : Addr} {sp : Sp} {H : Hp}
theorem RepX.own {a dx : Addr} {fs : List (Str × V)} {t : Str} (c : Op2 X.prog X.w X.K X.mg X.base k C "__repr__" sp) (ea : H a = some (.ins C dx fs))
    (hsp : ∀ Q : VK, Q (.str t) H → sp [.ref a] H Q E0) : RepX X H k (.ref a) t := by
  obtain ⟨g, fd, ps, F, hb, hs, hf⟩ := c.ex
  intro A base hr hfr hz pins s σ u Q E ru I hq
  obtain rfl : u = Value.ref a := ru
  obtain ⟨mA, O, _⟩ := ins_get I.hok ea
  obtain ⟨od, J, _⟩ := O.look
  refine wpAny_pyReprUnder_ref (by omega) ?_
  unfold pyReprObjUnder pyReprObjBy
  refine wpAny_bind (wpAny_cRoomFor hr.units0 ?_)
  refine wpAny_bind (wpAny_bind (J.type.here ((PySem.W.looks_findIn I.kIn hs).here ?_)))
  show wpAny _ _ (if (some (Value.ref g)).isNone = true then _ else _) _ _ _
  rw [if_neg (by simp)]
  have main : wpAny (model X.prog X.w) A (call (.ref g) [.ref a]) (fun v s' => ∃ u, v = .str t u ∧ Q t s') E s := by
    refine wpAny_mono (run_at (vs := [.ref a]) F hr hfr hb I (.cons rfl .nil) (hsp (fun v H' => v = .str t ∧ H' = H) ⟨rfl, rfl⟩)) (fun v s' z => ?_) fun _ _ x => x
    obtain ⟨z', H', I', rz, rfl, rfl⟩ := z
    obtain ⟨tk, rfl⟩ := rz
    exact ⟨tk, rfl, hq s' I'⟩
  have fin : wpAny (model X.prog X.w) A (callSpecialIfBoundBy? (fun g first => match reprUnder? g, first with
      | some twin, [self] => call twin [self, rawInt base]
      | _, _ => call g (first ++ [])) (.ref a) "__repr__") (fun r s' => ∃ u, r = some (.str t u) ∧ Q t s') E s := by
    simp only [callSpecialIfBoundBy?, bindSpecialIfBound?]
    refine wpAny_holding (wpAny_bind (wpAny_bind (wpAny_bind (J.type.here ((PySem.W.looks_findIn I.kIn hs).here ?_)))))
    refine wpAny_bind (wpAny_askSetting (wpAny_ite ?_))
    have m2 : wpAny (model X.prog X.w) A (call (.ref g) ([.ref a] ++ []) >>= fun v => pure (some v)) (fun r s' => ∃ u, r = some (.str t u) ∧ Q t s') E s :=
      wpAny_bind (wpAny_mono main (fun v s' h' => by obtain ⟨u, rfl, q⟩ := h'; exact wpAny_pure ⟨u, rfl, q⟩) fun _ _ h' => h')
    split
    · exact wpAny_bind ((PySem.W.bind_fn I.kIn _ (beq_iff_eq.mp hf)).here (wpAny_pure (by exact m2)))
    · exact wpAny_tryCatch (wpAny_bind ((PySem.W.bind_fn I.kIn _ (beq_iff_eq.mp hf)).here (wpAny_pure (by exact m2))))
  refine wpAny_bind (wpAny_mono fin (fun r s' hr' => ?_) fun _ _ e => e)
  obtain ⟨u, rfl, q⟩ := hr'
  exact wpAny_bind (wpAny_isInstance (T := "str") (b := true) rfl isSubtype_str_str (wpAny_pure ⟨_, _, rfl, q⟩))
/-- items and their texts -/
inductive RepAll (X : Cx) (H : Hp) (k : Nat) : List V → List Str → Prop
  | nil : RepAll X H k [] []
  | cons {v : V} {t : Str} {vs : List V} {ts : List Str} : RepX X H k v t → RepAll X H k vs ts → RepAll X H k (v :: vs) (t :: ts)
theorem RepAll.len : ∀ {vs : List V} {ts : List Str}, RepAll X H k vs ts → ts.length = vs.length
  | _, _, .nil => rfl
  | _, _, .cons _ h => by simp [h.len]
theorem RepAll.at : ∀ {vs : List V} {ts : List Str} {us : List Value} {i : Nat} {u : Value}, RepAll X H k vs ts → Vals vs us → us[i]? = some u → ∃ v t, ts[i]? = some t ∧ RelV v u ∧ RepX X H k v t
  | _, _, _, _, _, .nil, .nil, h => by simp at h
  | _, _, _, 0, _, .cons r _, .cons q _, h => by
    simp at h; subst h
    exact ⟨_, _, rfl, q, r⟩
  | _, _, _, i + 1, _, .cons _ r, .cons _ q, h => by
    obtain ⟨v, t, a, b, c⟩ := RepAll.at (i := i) r q (by simpa using h)
    exact ⟨v, t, by simpa using a, b, c⟩
abbrev partsObj (acc : Array Value) (c : Nat) : Obj := { cls := .type "list", dict := none, data := .seq acc c, slots := #[] }
theorem list_loop {a P : Addr} {vs : List V} {ts : List Str} {A : Around} {base : Nat} {R : Result → Shared → Prop} {σ : L2.St} {pins : List (Addr × Obj)} (hr : Room (k + 1) A) (hfr : A.frames = some X.stack)
    (ha : SqL X.K H a vs) (hT : RepAll X H k vs ts) (hsz : base + (listText ts).length ≤ sizeLine) (hP0 : X.s_0.heap.objs.size ≤ P) (hPL : P ≠ X.env.locals) (hPc : ∀ x c, X.env.cells.lookup x = some c → c ≠ P) (hPp : ∀ p ∈ X.pn ++ pins, p.1 ≠ P) (hPs : P ∉ X.fs)
    (hR : ∀ s' u, Inv X pins σ H s' → R (.ok (.ret (.str (listText ts) u))) s') :
    ∀ (n i : Nat) (s : Shared) (acc : Array Value) (c : Nat) (done : List (Str × Tok)), vs.length - i = n → i ≤ vs.length → Inv X ((P, partsObj acc c) :: pins) σ H s → acc.toList = strValues done → done.map (·.1) = ts.take i →
    codeAny (model X.prog X.w) A (.builtin "list.__repr__.loop" ⟨[.ref a, rawInt i, .ref P, rawInt ((base + piled (ts.take i) : Nat) : Int)], []⟩) R s := by
  have hlen := hT.len
  have hX : (listText ts).length = (textFrom 0 "[" ts).length + 1 := by
    show (textFrom 0 "[" ts ++ "]").length = _
    rw [strLen_append]; rfl
  have hL := textFrom_len ts 0 "["
  have hsz1 : vs.length ≤ sizeLine := by
    have h1 := hL.1
    rw [if_neg (Nat.lt_irrefl 0)] at h1
    omega
  have hsz2 : ∀ t ∈ ts, t.length ≤ sizeLine := fun t ht => by
    have h2 := hL.2.1 t ht
    omega
  have hp3 := piled_le_listText ts
  intro n
  induction n with
  | zero =>
    intro i s acc c done hk hi I hacc hdone
    obtain ⟨its, rv, ⟨oa, na, hoa, _, _, hda⟩, _⟩ := I.list ha
    have hin : i = vs.length := by omega
    have hPo := ClX.pin_at I
    refine codeAny_builtin F.entry_list_repr_loop ?_
    show wpAny _ _ (Builtin.«list.__repr__.loop» ⟨[.ref a, .int i 0, .ref P, .int ((base + piled (ts.take i) : Nat) : Int) 0], []⟩) _ _ s
    rw [repr_loop_tree]
    refine wpAny_bind (wpAny_listItems hoa hda ?_)
    have hnone : its.toArray[(i : Int).toNat]? = none := by
      have := rv.length
      simp; omega
    simp only [hnone]
    unfold reprEnd
    refine wpAny_bind (wpAny_listItems hPo rfl ?_)
    rw [hacc, repr_fold]
    refine wpAny_bind (wpAny_pure ?_)
    have hall : done.map (·.1) = ts := by rw [hdone, hin, ← hlen, List.take_length]
    rw [hall]
    refine wpAny_bind (wpAny_mkStr (wpAny_pure ?_) (show (listText ts).length ≤ sizeLine by omega))
    exact hR _ _ ((ClX.unpin I).tok _)
  | succ n ih =>
    intro i s acc c done hk hi I hacc hdone
    obtain ⟨its, rv, ⟨oa, na, hoa, _, _, hda⟩, _⟩ := I.list ha
    have hil : i < its.length := by have := rv.length; omega
    obtain ⟨v, t, ht, rvu, hrep⟩ := hT.at (i := i) (u := its[i]) rv (by simp [hil])
    have hp1 := piled_take_succ ht
    have hp2 := piled_take_le ts (i + 1)
    refine codeAny_builtin F.entry_list_repr_loop ?_
    show wpAny _ _ (Builtin.«list.__repr__.loop» ⟨[.ref a, .int i 0, .ref P, .int ((base + piled (ts.take i) : Nat) : Int) 0], []⟩) _ _ s
    rw [repr_loop_tree]
    refine wpAny_bind (wpAny_listItems hoa hda ?_)
    have hsome : its.toArray[(i : Int).toNat]? = some its[i] := by simp [hil]
    simp only [hsome]
    rw [Int.toNat_natCast]
    refine wpAny_bind (wpAny_holding (hrep _ (base + piled (ts.take i) + 1) (loop_room hr) (loop_frames.trans hfr) (by omega) _ _ σ _ _ _ rvu I fun s1 I1 => ?_))
    refine wpAny_bind (wpAny_mkStr ?_ (hsz2 t (List.mem_of_getElem? ht)))
    refine wpAny_bind ?_
    show wpAny _ _ (updateSeq P _) _ _ _
    have hasz : acc.size ≤ sizeLine := by
      have e1 : acc.toList.length = acc.size := by simp
      have e2 : (strValues done).length = done.length := by simp [strValues]
      have e3 : done.length = (ts.take i).length := by rw [← hdone, List.length_map]
      have e4 : (ts.take i).length ≤ i := by rw [List.length_take]; omega
      rw [hacc] at e1; omega
    have I2 := I1.tok (s1.toks + 1)
    have hPn : H P = none := ClX.pin_un I1
    have hP2 : ({ s1 with toks := s1.toks + 1 } : Shared).heap.get? P = some (partsObj acc c) := ClX.pin_at I1
    refine wpAny_updateSeq hP2 rfl (wpAny_pure ⟨F.quiet_list_repr_loop _, ?_⟩) hasz
    have e1 : ((i : Int) + 1) = ((i + 1 : Nat) : Int) := by omega
    have e2 : base + piled (ts.take i) + (t.length + 2) = base + piled (ts.take (i + 1)) := by omega
    rw [e1, e2]
    have hup : ∃ c', (s1.heap.update P (Obj.mapSeq (·.push (.str t s1.toks)))).get? P = some (partsObj (acc.push (.str t s1.toks)) c') := ⟨_, Heap.get?_update_self _ (ClX.pin_at I1) rfl⟩
    obtain ⟨c', hup⟩ := hup
    refine ih (i + 1) _ (acc.push (.str t s1.toks)) c' (done ++ [(t, s1.toks)]) (by omega) (by omega) ?_ (by simp [hacc, strValues]) (by simp [List.take_add_one, ht, hdone])
    have I3 := (ClX.unpin I2).turned (t' := s1.toks + 1) (it := P) (h' := s1.heap.update P (Obj.mapSeq (·.push (.str t s1.toks)))) (fun b o hb e => (Heap.get?_update_other _ _ (fun h : P = b => hb h.symm)).trans e) (ClX.pin_un I1) hPL (.inr hP0) hPc hPp
    refine I3.pins_of fun p hp => ?_
    rcases List.mem_cons.mp hp with e | e
    · subst e
      refine ⟨hup, hPn, hPL, hPs, fun v z => nomatch z⟩
    · exact I3.pin p (List.mem_append_right _ e)
/-- repr of a list whose items have such texts -/
def rReprL (X : Cx) (k : Nat) : List V → Hp → VK → Prop := fun xs H Q => ∃ a v vs ts, xs = [.ref a] ∧ SqL X.K H a (v :: vs) ∧ RepAll X H k (v :: vs) ts ∧ (listText ts).length ≤ sizeLine ∧ Q (.str (listText ts)) H
theorem call_reprL (ga : GA X.A) (hr : Room (k + 2) X.A) : CallR X (.builtin "repr") (rReprL X k) := by
  intro pins s σ H xs us Q I r h
  obtain ⟨a, v, vs, ts, rfl, hS, hT, hz, q⟩ := h
  obtain ⟨u, rfl, ru⟩ := vals1 r
  obtain rfl : u = Value.ref a := ru
  obtain ⟨its, rv, ⟨oa, na, hoa, hc, hd, hda⟩, _⟩ := I.list hS
  obtain ⟨i0, irest, rfl⟩ : ∃ i0 irest, its = i0 :: irest := by
    cases rv with
    | cons _ _ => exact ⟨_, _, rfl⟩
  have hTy : s.TypeIs (.ref a) "list" := ⟨oa, hoa, hc⟩
  have hr1 : Room (k + 1) X.A.in1 := hr.in1
  refine call_repr_slot (by have := hr.units; omega) hTy F.slot_list_repr.toG ?_
  refine wpAny_call (codeAny_call_builtin F.slot_list_repr.plain F.entry_list_repr (F.slot_list_repr.check _ _ _ _ _ _ _ _ hTy (F.args_list_repr_1 _) ?_))
  refine wpAny_list_repr_head (A := X.A.in1.in1) (b := 0) (g := []) ga (fun _ _ _ z => nomatch z) hoa hda ?_
  refine wpAny_bind (m := newList []) (wpAny_newObj_type ?_)
  refine wpAny_pure ⟨F.quiet_list_repr_loop _, ?_⟩
  have I1 : Inv X ((s.heap.objs.size, partsObj #[] 0) :: pins) σ H { s with heap := s.heap.push (partsObj #[] 0), toks := s.toks } :=
    ClX.pin_new I (fun _ _ z => Heap.get?_push_of_some _ z) (Nat.le_refl _) (Heap.get?_push_size s.heap rfl) (fun v z => nomatch z)
  refine list_loop (P := s.heap.objs.size) (base := 0) (pins := pins) (σ := σ) hr1 I.ok.frames hS hT (by omega) I.sz (Nat.ne_of_gt I.lt) (fun x c e => ?_) (fun p hp => ?_) (I.nofs (Nat.le_refl _)) (fun s' u I' => ?_) _ 0 _ #[] 0 [] rfl (Nat.zero_le _) I1 rfl (by simp)
  · obtain ⟨_, ob, hob, _⟩ := I.cell x c e
    exact Nat.ne_of_lt (Heap.lt_size hob)
  · exact Nat.ne_of_lt (Heap.lt_size (I.pin p hp).1)
  · exact ⟨_, _, rfl, .str _, H, I', ⟨_, rfl⟩, q⟩
end
end Mv
set_option Elab.async false
set_option maxRecDepth 100000
set_option maxHeartbeats 4000000
namespace Mv
open PySem PySem.Spec PyProof.Rows L2
/-- a def of the text, its defaults dvs -/
abbrev Df (K : PySem.W.Frag) (x qual : Str) (st : Stmt) (dvs : List V) (f : Addr) (fd : FuncData) : Prop := FunD K x qual (defArgs st) (defBody st) (defScope st) dvs [] f fd
section
variable {P : Program} {w : World} {K : PySem.W.Frag} {mg : Str → Option Value} {base : Heap}
theorem Df.mk0 {x qual : Str} {st : Stmt} {f : Addr} {oc : Value} {od an : Option Addr} {osl : Array (Option Value)} {kV doc pm cdv ct : Value} (l : K.lookup f = some ⟨oc, od, .func (PySem.W.fnOf x qual (defArgs st) (defBody st) (defScope st) .none kV doc pm an cdv ct), osl⟩)
    (c : PySem.W.codeIn K cdv qual = true) (k : PySem.W.keepIn K (.ref f) = true) : Df K x qual st [] f (PySem.W.fnOf x qual (defArgs st) (defBody st) (defScope st) .none kV doc pm an cdv ct) :=
  ⟨⟨oc, od, .none, kV, doc, pm, an, cdv, ct, osl, rfl, l, c, .inl ⟨rfl, rfl⟩, .inl rfl⟩, k⟩
theorem dfOk {x qual : Str} {st : Stmt} {dvs : List V} {f : Addr} {fd : FuncData} {N ps : List Str} {k : Nat} {sp : Sp} (F : Df K x qual st dvs f fd) (S : FnScope N ps (defScope st)) (len : ∀ vs H Q E, sp vs H Q E → vs.length = ps.length)
    (hbody : ∀ (cdv : Value) (A : Around) (outer : List Env) (s : Shared) (H : Hp) (vs : List V) (Q : VK) (E : XK), Room k (A.deeper (envOfC qual (defScope st) s.heap.objs.size f cdv)) → sp vs H Q E →
      ∃ t, PSs (cxOf CX0 P w K mg base N qual (defScope st) f cdv A outer s H E).nox (defBody st) t ∧ t { nx := fun _ H' => Q .non H', rt := Q } (start N vs) H) : FnOk P w K mg base CX0 (k + 1) f fd ps sp :=
  FunD.ok F S len fun cdv A outer s H vs Q E hr h => let ⟨t, h1, h2⟩ := hbody cdv A outer s H vs Q E hr h; ⟨t, h1.nox, h2⟩
theorem dfG {x qual : Str} {st : Stmt} {dvs : List V} {f : Addr} {fd : FuncData} {N ps : List Str} {k : Nat} {sp : Sp} (F : Df K x qual st dvs f fd) (S : FnScope N ps (defScope st)) (len : ∀ vs H Q E, sp vs H Q E → vs.length = ps.length)
    (hbody : ∀ (cdv : Value) (A : Around) (outer : List Env) (s : Shared) (H : Hp) (vs : List V) (Q : VK) (E : XK), Room k (A.deeper (envOfC qual (defScope st) s.heap.objs.size f cdv)) → GA (A.deeper (envOfC qual (defScope st) s.heap.objs.size f cdv)) → sp vs H Q E →
      ∃ t, PSs (cxOf CX0 P w K mg base N qual (defScope st) f cdv A outer s H E).nox (defBody st) t ∧ t { nx := fun _ H' => Q .non H', rt := Q } (start N vs) H) : FnG P w K mg base (k + 1) f fd ps sp := by
  obtain ⟨oc, od, dV, kV, doc, pm, an, cdv, ct, osl, rfl, lk, hcd, _, _⟩ := F.ex
  refine fng_of lk hcd S len fun A outer s H vs Q E hr ga hsp => ?_
  obtain ⟨t, h, q⟩ := hbody cdv A outer s H vs Q E hr ga hsp
  exact ⟨t, h.nox, q⟩
theorem Df.bind {x qual : Str} {st : Stmt} {f : Addr} {fd : FuncData} {ps : List Str} (F : Df K x qual st [] f fd)
    (h : ∀ (kV doc pm : Value) (an : Option Addr) (cdv ct : Value) (us : List Value), us.length = ps.length → bindArgs (PySem.W.fnOf x qual (defArgs st) (defBody st) (defScope st) .none kV doc pm an cdv ct) ⟨us, []⟩ = pure (ps.zip us)) : Binds K fd ps [] := by
  obtain ⟨oc, od, dV, kV, doc, pm, an, cdv, ct, osl, rfl, lk, hcd, hd, _⟩ := F.ex
  rcases hd with ⟨_, e⟩ | ⟨e, _⟩
  · subst e
    exact .all (h kV doc pm an cdv ct)
  · exact absurd rfl e
end
/-- a def called by its name -/
structure Ca (P : Program) (w : World) (K : PySem.W.Frag) (mg : Str → Option Value) (base : Heap) (k : Nat) (x : Str) (sp : Sp) (dvs : List V) : Prop where
  ex : ∃ (f : Addr) (fd : FuncData) (ps : List Str) (ds : List Value), FnOk P w K mg base CX0 k f fd ps sp ∧ mg x = some (.ref f) ∧ PySem.W.keepIn K (.ref f) = true ∧ Binds K fd ps ds ∧ Vals dvs ds
/-- a class made by its name; C its address, sp the promise of its __init__ -/
structure Ma (P : Program) (w : World) (K : PySem.W.Frag) (mg : Str → Option Value) (base : Heap) (k : Nat) (x : Str) (C : Addr) (sp : Sp) (dvs : List V) : Prop where
  ex : ∃ (f : Addr) (fd : FuncData) (ps : List Str) (ds : List Value), Mk K C f ∧ FnOk P w K mg base CX0 k f fd ps sp ∧ mg x = some (.ref C) ∧ Binds K fd ps ds ∧ Vals dvs ds
/-- .. by keywords alone -/
structure MaK (P : Program) (w : World) (K : PySem.W.Frag) (mg : Str → Option Value) (base : Heap) (k : Nat) (x : Str) (C : Addr) (sp : Sp) (ks : List Str) (gV : List V → List V → List V) : Prop where
  ex : ∃ (f : Addr) (fd : FuncData) (ps : List Str) (g : List Value → List Value → List Value), Mk K C f ∧ FnOk P w K mg base CX0 k f fd ps sp ∧ mg x = some (.ref C) ∧ KBn K fd ps 1 ks g gV
/-- a method -/
structure Me (P : Program) (w : World) (K : PySem.W.Frag) (mg : Str → Option Value) (base : Heap) (k : Nat) (C : Addr) (m : Str) (sp : Sp) (dvs : List V) : Prop where
  ex : ∃ (f : Addr) (fd : FuncData) (ps : List Str) (ds : List Value), Cls K C ∧ Meth K C m f ∧ FnOk P w K mg base CX0 k f fd ps sp ∧ Binds K fd ps ds ∧ Vals dvs ds
/-- a property -/
structure Pr (P : Program) (w : World) (K : PySem.W.Frag) (mg : Str → Option Value) (base : Heap) (k : Nat) (C : Addr) (m : Str) (sp : Sp) : Prop where
  ex : ∃ (p g : Addr) (fd : FuncData) (ps : List Str), Cls K C ∧ PropOf K C m p g ∧ FnOk P w K mg base CX0 k g fd ps sp ∧ Binds K fd ps []
section
variable {X : Cx} {k j : Nat} {C : Addr} {x m : Str} {sp : Sp} {dvs : List V} {p pos apos : Pos} {e o : Expr} {es : List Expr} {ta : TE} {t tk : TA} {ks : List Str} {gV : List V → List V → List V} {kws : List Keyword}
theorem pe_ca (c : Ca X.prog X.w X.K X.mg X.base k x sp dvs) (hr : Room j X.A) (hk : k ≤ j) (hg : Gl X x) (ha : PA X (e :: es) t)
    (hdb : (x == ("__debug__" : Str)) = false := by decide) (he : starEach (e :: es) X.env = (false, eval e X.env) :: starEach es X.env := by rfl) (hpl : (backTo pos (starEach es X.env)).any (·.1) = false := by rfl) :
    PE X (.Call (.Name x p) (e :: es) [] pos) (tCall sp dvs E0 t) := by
  obtain ⟨f, fd, ps, ds, F, hm, kp, b, d⟩ := c.ex
  exact pe_call F (hr.mono hk) hg hm kp b d pass0 ha hdb he hpl
theorem pe_ma (c : Ma X.prog X.w X.K X.mg X.base k x C sp dvs) (hr : Room j X.A) (hk : k + 1 ≤ j) (hg : Gl X x) (ha : PA X (e :: es) t)
    (hdb : (x == ("__debug__" : Str)) = false := by decide) (he : starEach (e :: es) X.env = (false, eval e X.env) :: starEach es X.env := by rfl) (hpl : (backTo pos (starEach es X.env)).any (·.1) = false := by rfl) :
    PE X (.Call (.Name x p) (e :: es) [] pos) (tMake C sp dvs E0 t) := by
  obtain ⟨f, fd, ps, ds, M, F, hm, b, d⟩ := c.ex
  exact pe_make M F (hr.mono hk) hg hm b d pass0 ha hdb he hpl
theorem pe_me {pl : Sem Bool} (c : Me X.prog X.w X.K X.mg X.base k C m sp dvs) (hr : Room j X.A) (hk : k ≤ j) (he : PE X o ta) (ha : PA X (e :: es) t)
    (hst : starEach (e :: es) X.env = (false, eval e X.env) :: starEach es X.env := by rfl) (hpl : (backTo pos (starEach es X.env)).any (·.1) = false := by rfl)
    (ht : eval (.Call (.Attribute o m apos) (e :: es) [] pos) X.env = (do
      let ov ← eval o X.env
      standAt apos.atName
      let (f, first) ← holding [ov] (getMethod ov m pl)
      callWith pos f first (backTo pos (starEach (e :: es) X.env)) (backToKw pos (keywordEach [] X.env))) := by rfl) :
    PE X (.Call (.Attribute o m apos) (e :: es) [] pos) (tMeth C m sp dvs E0 ta t) := by
  obtain ⟨f, fd, ps, ds, hc, hm, F, b, d⟩ := c.ex
  exact pe_meth (pl := pl) he hc hm F (hr.mono hk) b d pass0 ha hst hpl ht
theorem pe_me0 {pl : Sem Bool} (c : Me X.prog X.w X.K X.mg X.base k C m sp dvs) (hr : Room j X.A) (hk : k ≤ j) (he : PE X o ta)
    (ht : eval (.Call (.Attribute o m apos) [] [] pos) X.env = (do
      let ov ← eval o X.env
      standAt apos.atName
      let (f, first) ← holding [ov] (getMethod ov m pl)
      callWith pos f first (backTo pos (starEach [] X.env)) (backToKw pos (keywordEach [] X.env))) := by rfl) :
    PE X (.Call (.Attribute o m apos) [] [] pos) (tMeth C m sp dvs E0 ta tNil) := by
  obtain ⟨f, fd, ps, ds, hc, hm, F, b, d⟩ := c.ex
  exact pe_meth0 (pl := pl) he hc hm F (hr.mono hk) b d pass0 ht
theorem pe_pr (c : Pr X.prog X.w X.K X.mg X.base k C m sp) (hr : Room j X.A) (hk : k + 1 ≤ j) (he : PE X e ta)
    (hab : attributeBase e m X.env (eval e X.env) = eval e X.env := by rfl) : PE X (.Attribute e m pos) (tProp C sp [] E0 ta) := by
  obtain ⟨p, g, fd, ps, hc, hp, F, b⟩ := c.ex
  exact pe_prop he hc hp F (hr.mono hk) b .nil pass0 hab
theorem pe_mak (c : MaK X.prog X.w X.K X.mg X.base k x C sp ks gV) (hr : Room j X.A) (hk : k + 1 ≤ j) (hg : Gl X x) (hkw : PK X kws tk)
    (hall : (backToKw pos (keywordEach kws X.env)).all (·.1.isSome) = true := by rfl) (hks : (backToKw pos (keywordEach kws X.env)).filterMap (·.1) = ks := by rfl)
    (hdb : (x == ("__debug__" : Str)) = false := by decide) (hpl : ((backTo pos (starEach [] X.env)).any (·.1) || (backToKw pos (keywordEach kws X.env)).any (·.1.isNone)) = false := by rfl) :
    PE X (.Call (.Name x p) [] kws pos) (tMakeK C 0 ks.length sp gV E0 tNil tk) := by
  obtain ⟨f, fd, ps, g, M, F, hm, b⟩ := c.ex
  exact pe_makeK0 M F (hr.mono hk) hg hm b pass0 hkw hall hks hdb hpl
end
section
variable {K : PySem.W.Frag}
/-- keywords of a def without defaults -/
theorem Df.kbn {x qual : Str} {st : Stmt} {f : Addr} {fd : FuncData} {ps : List Str} (F : Df K x qual st [] f fd) (n : Nat) (ks : List Str) (g : {α : Type} → List α → List α → List α)
    (hrel : ∀ {vs zs : List V} {us ws : List Value}, Vals vs us → Vals zs ws → Vals (g vs zs) (g us ws))
    (h : ∀ (kV doc pm : Value) (an : Option Addr) (cdv ct : Value) (us ws : List Value), us.length = n → ws.length = ks.length → bindArgs (PySem.W.fnOf x qual (defArgs st) (defBody st) (defScope st) .none kV doc pm an cdv ct) ⟨us, ks.zip ws⟩ = pure (ps.zip (g us ws))) :
    KBn K fd ps n ks (fun us ws => g us ws) (fun vs zs => g vs zs) := by
  obtain ⟨oc, od, dV, kV, doc, pm, an, cdv, ct, osl, rfl, lk, hcd, hd, _⟩ := F.ex
  rcases hd with ⟨_, e⟩ | ⟨e, _⟩
  · subst e
    exact ⟨fun s us ws X l1 l2 => .of_eq (h kV doc pm an cdv ct us ws l1 l2), fun r1 r2 => hrel r1 r2⟩
  · exact absurd rfl e
end
/-- a def by its name, keywords alone; a method, the same; a static method -/
structure CaK (P : Program) (w : World) (K : PySem.W.Frag) (mg : Str → Option Value) (base : Heap) (k : Nat) (x : Str) (sp : Sp) (ks : List Str) (gV : List V → List V → List V) : Prop where
  ex : ∃ (f : Addr) (fd : FuncData) (ps : List Str) (g : List Value → List Value → List Value), FnOk P w K mg base CX0 k f fd ps sp ∧ mg x = some (.ref f) ∧ PySem.W.keepIn K (.ref f) = true ∧ KBn K fd ps 0 ks g gV
structure MeK (P : Program) (w : World) (K : PySem.W.Frag) (mg : Str → Option Value) (base : Heap) (k : Nat) (C : Addr) (m : Str) (sp : Sp) (ks : List Str) (gV : List V → List V → List V) : Prop where
  ex : ∃ (f : Addr) (fd : FuncData) (ps : List Str) (g : List Value → List Value → List Value), Cls K C ∧ Meth K C m f ∧ FnOk P w K mg base CX0 k f fd ps sp ∧ KBn K fd ps 1 ks g gV
/-- C.m of the class at C is the static def at f -/
structure SMet (K : PySem.W.Frag) (C : Addr) (m : Str) (f : Addr) : Prop where
  ga : PySem.W.specialIn K (.ref C) "__getattribute__" = some (some (.builtin "type.__getattribute__"))
  at_ : ∃ (mc : Value) (p : Addr) (rest : List Value), PySem.W.readsIn K C mc = true ∧ PySem.W.findCls K (.ref C) mc m = some (.get (.builtin "staticmethod.__get__") (.ref p) .none (.ref C)) ∧ PySem.W.recIn K p "staticmethod" = some (.ref f :: rest)
  hv : PySem.W.handedIn (.ref f) = true
  kp : PySem.W.keepIn K (.ref f) = true
structure Sm (P : Program) (w : World) (K : PySem.W.Frag) (mg : Str → Option Value) (base : Heap) (k : Nat) (C : Addr) (m : Str) (sp : Sp) : Prop where
  ex : ∃ (f : Addr) (fd : FuncData) (ps : List Str), SMet K C m f ∧ FnOk P w K mg base CX0 k f fd ps sp ∧ Binds K fd ps []
structure SmK (P : Program) (w : World) (K : PySem.W.Frag) (mg : Str → Option Value) (base : Heap) (k : Nat) (C : Addr) (m : Str) (sp : Sp) (ks : List Str) (gV : List V → List V → List V) : Prop where
  ex : ∃ (f : Addr) (fd : FuncData) (ps : List Str) (g : List Value → List Value → List Value), SMet K C m f ∧ FnOk P w K mg base CX0 k f fd ps sp ∧ KBn K fd ps 0 ks g gV
def tCallKn (n m : Nat) (sp : Sp) (gV : List V → List V → List V) (pre : List V) (tk : TA) : TE := fun σ H Q => tk σ H fun zs H2 => zs.length = m ∧ sp (gV pre zs) H2 Q E0
def tMethKn (C : Addr) (m : Str) (n : Nat) (sp : Sp) (gV : List V → List V → List V) (ta : TE) (tk : TA) : TE := fun σ H Q => ta σ H fun x H1 => ∃ a dx fs, x = .ref a ∧ H1 a = some (.ins C dx fs) ∧ fs.lookup m = none ∧
  tk σ H1 fun zs H2 => zs.length = n ∧ sp (gV [x] zs) H2 Q E0
section
variable {X : Cx} {k j n : Nat} {C f : Addr} {fd : FuncData} {ps : List Str} {x m : Str} {sp : Sp} {dvs : List V} {p pos apos : Pos} {e o : Expr} {es : List Expr} {ta : TE} {t tk : TA} {ks : List Str} {g : List Value → List Value → List Value} {gV : List V → List V → List V} {kws : List Keyword}
theorem run_kn {pins : List (Addr × Obj)} {σ : L2.St} {H : Hp} {s : Shared} {Q : VK} {us ws : List Value} {vs zs : List V} (F : FnOk X.prog X.w X.K X.mg X.base CX0 k f fd ps sp) (hr : Room k X.A) (hb : KBn X.K fd ps n ks g gV)
    (I : Inv X pins σ H s) (r : Vals vs us) (rz : Vals zs ws) (l1 : vs.length = n) (l2 : zs.length = ks.length) (h : sp (gV vs zs) H Q E0) : wpAny (model X.prog X.w) X.A (call (.ref f) us (ks.zip ws)) (EP X pins σ Q) X.xe s := by
  refine wpAny_call (codeAny_mono (F.run X.A X.stack s H ⟨us, ks.zip ws⟩ (g us ws) (gV vs zs) Q E0 hr I.env0 (hb.to s us ws I.kIn (r.length.symm.trans l1) (rz.length.symm.trans l2)) (hb.rel r rz) h) fun r s' hq => ?_)
  cases r with
  | error e => exact False.elim hq
  | ok fl =>
    cases fl with
    | ret u => exact I.after hq
    | next => exact False.elim hq
    | brk => exact False.elim hq
    | cont => exact False.elim hq
theorem pe_cak (c : CaK X.prog X.w X.K X.mg X.base k x sp ks gV) (hr : Room j X.A) (hk : k ≤ j) (hg : Gl X x) (hkw : PK X kws tk)
    (hall : (backToKw pos (keywordEach kws X.env)).all (·.1.isSome) = true := by rfl) (hks : (backToKw pos (keywordEach kws X.env)).filterMap (·.1) = ks := by rfl)
    (hdb : (x == ("__debug__" : Str)) = false := by decide) (hpl : ((backTo pos (starEach [] X.env)).any (·.1) || (backToKw pos (keywordEach kws X.env)).any (·.1.isNone)) = false := by rfl) :
    PE X (.Call (.Name x p) [] kws pos) (tCallKn 0 ks.length sp gV [] tk) := by
  obtain ⟨f, fd, ps, g, F, hm, kp, b⟩ := c.ex
  refine ⟨fun pins s σ H Q I h => ?_⟩
  refine wpAny_Call_Name_kw (ld_glob I hg hm ?_ hdb)
  refine PySem.W.callWith_KW0 (h₀ := X.base) I.ok.mod.kin kp hall ?_ hpl
  refine thn (hkw.run pos pins s σ H _ I h) fun ws s2 ⟨zs, H2, I2, rz, l2, q2⟩ => ⟨I2.kIn, ?_⟩
  rw [hks]
  exact run_kn (us := []) (vs := []) F (hr.mono hk) b I2 .nil rz rfl l2 q2
theorem pe_mek {pl : Sem Bool} (c : MeK X.prog X.w X.K X.mg X.base k C m sp ks gV) (hr : Room j X.A) (hk : k ≤ j) (he : PE X o ta) (hkw : PK X kws tk)
    (hall : (backToKw pos (keywordEach kws X.env)).all (·.1.isSome) = true := by rfl) (hks : (backToKw pos (keywordEach kws X.env)).filterMap (·.1) = ks := by rfl)
    (hpl : ((backTo pos (starEach [] X.env)).any (·.1) || (backToKw pos (keywordEach kws X.env)).any (·.1.isNone)) = false := by rfl)
    (ht : eval (.Call (.Attribute o m apos) [] kws pos) X.env = (do
      let ov ← eval o X.env
      standAt apos.atName
      let (f, first) ← holding [ov] (getMethod ov m pl)
      callWith pos f first (backTo pos (starEach [] X.env)) (backToKw pos (keywordEach kws X.env))) := by rfl) :
    PE X (.Call (.Attribute o m apos) [] kws pos) (tMethKn C m ks.length sp gV ta tk) := by
  obtain ⟨f, fd, ps, g, hc, hm, F, b⟩ := c.ex
  refine ⟨fun pins s σ H Q I h => ?_⟩
  refine PySem.W.methodCall_KW (pl := pl) (thn (he.run pins s σ H _ I h) fun u s1 ⟨x, H1, I1, rx, a, dx, fs, ex, ea, l, q⟩ => ?_) ht
  subst ex
  obtain rfl : u = Value.ref a := rx
  refine getmeth_ok I1 ea hc hm l ?_
  refine PySem.W.callWith_KW0 (first := [.ref a]) (h₀ := X.base) I.ok.mod.kin hm.kp hall ?_ hpl
  refine thn (hkw.run pos pins s1 σ H1 _ I1 q) fun ws s2 ⟨zs, H2, I2, rz, l2, q2⟩ => ⟨I2.kIn, ?_⟩
  rw [hks]
  exact run_kn (us := [.ref a]) (vs := [.ref a]) F (hr.mono hk) b I2 (.cons rfl .nil) rz rfl l2 q2
theorem getsm_ok {pins : List (Addr × Obj)} {σ : L2.St} {H : Hp} {s : Shared} {pl : Sem Bool} {Q : Value × List Value → Shared → Prop} {A : Around} {E : Value → Shared → Prop} (I : Inv X pins σ H s) (c : SMet X.K C m f) (h : ∀ s', Inv X pins σ H s' → Q (.ref f, []) s') :
    wpAny (model X.prog X.w) A (getMethod (.ref C) m pl) Q E s := by
  obtain ⟨mc, pp, rest, rd, at_, rc⟩ := c.at_
  refine PySem.W.method_cls I.kIn c.ga (PySem.W.cls_bind I.kIn rd at_ ?_)
  exact wpAny_call (PySem.W.sm_get (s := { s with toks := s.toks + 1 }) I.kIn rc (PySem.W.handed_on c.hv (h _ (I.tok _))))
/-- C.m(e, ..), m static, C told by an expression -/
def tSm (C : Addr) (sp : Sp) (to : TE) (t : TA) : TE := fun σ H Q => to σ H fun x H1 => x = .ref C ∧ t σ H1 fun vs H2 => sp vs H2 Q E0
def tSmK (C : Addr) (n : Nat) (sp : Sp) (gV : List V → List V → List V) (to : TE) (tk : TA) : TE := fun σ H Q => to σ H fun x H1 => x = .ref C ∧ tk σ H1 fun zs H2 => zs.length = n ∧ sp (gV [] zs) H2 Q E0
theorem pe_sm {pl : Sem Bool} (c : Sm X.prog X.w X.K X.mg X.base k C m sp) (hr : Room j X.A) (hk : k ≤ j) (he : PE X o ta) (ha : PA X (e :: es) t)
    (hst : starEach (e :: es) X.env = (false, eval e X.env) :: starEach es X.env := by rfl) (hpl : (backTo pos (starEach es X.env)).any (·.1) = false := by rfl)
    (ht : eval (.Call (.Attribute o m apos) (e :: es) [] pos) X.env = (do
      let ov ← eval o X.env
      standAt apos.atName
      let (f, first) ← holding [ov] (getMethod ov m pl)
      callWith pos f first (backTo pos (starEach (e :: es) X.env)) (backToKw pos (keywordEach [] X.env))) := by rfl) :
    PE X (.Call (.Attribute o m apos) (e :: es) [] pos) (tSm C sp ta t) := by
  obtain ⟨f, fd, ps, sm, F, b⟩ := c.ex
  refine ⟨fun pins s σ H Q I h => ?_⟩
  refine PySem.W.methodCall_KW (pl := pl) (thn (he.run pins s σ H _ I h) fun u s1 ⟨x, H1, I1, rx, ex, q⟩ => ?_) ht
  subst ex
  obtain rfl : u = Value.ref C := rx
  refine getsm_ok I1 sm fun s1' I1' => ?_
  refine PySem.W.callWith_K (h₀ := X.base) I.ok.mod.kin sm.kp (thn (ha.run pos pins s1' σ H1 _ I1' q) fun us s2 ⟨vs, H2, I2, r, q2⟩ => ⟨I2.kIn, ?_⟩) hst hpl
  exact run_fn (dvs := []) F (hr.mono hk) b .nil pass0 I2 r (by rw [List.append_nil]; exact q2)
theorem pe_smk {pl : Sem Bool} (c : SmK X.prog X.w X.K X.mg X.base k C m sp ks gV) (hr : Room j X.A) (hk : k ≤ j) (he : PE X o ta) (hkw : PK X kws tk)
    (hall : (backToKw pos (keywordEach kws X.env)).all (·.1.isSome) = true := by rfl) (hks : (backToKw pos (keywordEach kws X.env)).filterMap (·.1) = ks := by rfl)
    (hpl : ((backTo pos (starEach [] X.env)).any (·.1) || (backToKw pos (keywordEach kws X.env)).any (·.1.isNone)) = false := by rfl)
    (ht : eval (.Call (.Attribute o m apos) [] kws pos) X.env = (do
      let ov ← eval o X.env
      standAt apos.atName
      let (f, first) ← holding [ov] (getMethod ov m pl)
      callWith pos f first (backTo pos (starEach [] X.env)) (backToKw pos (keywordEach kws X.env))) := by rfl) :
    PE X (.Call (.Attribute o m apos) [] kws pos) (tSmK C ks.length sp gV ta tk) := by
  obtain ⟨f, fd, ps, g, sm, F, b⟩ := c.ex
  refine ⟨fun pins s σ H Q I h => ?_⟩
  refine PySem.W.methodCall_KW (pl := pl) (thn (he.run pins s σ H _ I h) fun u s1 ⟨x, H1, I1, rx, ex, q⟩ => ?_) ht
  subst ex
  obtain rfl : u = Value.ref C := rx
  refine getsm_ok I1 sm fun s1' I1' => ?_
  refine PySem.W.callWith_KW0 (h₀ := X.base) I.ok.mod.kin sm.kp hall ?_ hpl
  refine thn (hkw.run pos pins s1' σ H1 _ I1' q) fun ws s2 ⟨zs, H2, I2, rz, l2, q2⟩ => ⟨I2.kIn, ?_⟩
  rw [hks]
  exact run_kn (us := []) (vs := []) F (hr.mono hk) b I2 .nil rz rfl l2 q2
end
/-- the context stands over this text -/
structure Over (X : Cx) (P : Program) (w : World) (K : PySem.W.Frag) (mg : Str → Option Value) (base : Heap) : Prop where
  p : X.prog = P
  w : X.w = w
  k : X.K = K
  m : X.mg = mg
  b : X.base = base
section
variable {X : Cx} {P : Program} {w : World} {K : PySem.W.Frag} {mg : Str → Option Value} {base : Heap} {k j : Nat} {C : Addr} {sp : Sp}
theorem op_eqO' (c : Op2 P w K mg base k C "__eq__" sp) (hr : Room j X.A) (hk : k ≤ j) (e : Over X P w K mg base := by exact ⟨rfl, rfl, rfl, rfl, rfl⟩) : OpR X (compareOp .Eq) (rEqO K C sp) := by
  obtain ⟨rfl, rfl, rfl, rfl, rfl⟩ := e
  exact op_eqO c (hr.mono hk)
theorem op_neO' (c : Op2 P w K mg base k C "__eq__" sp) (hr : Room j X.A) (hk : k + 1 ≤ j) (hne : PySem.W.findIn K (.ref C) "__ne__" = some (some (.builtin "object.__ne__"))) (hm : PySem.W.mroIn K C (.type "object") = some true) (e : Over X P w K mg base := by exact ⟨rfl, rfl, rfl, rfl, rfl⟩) : OpR X (compareOp .NotEq) (rNeO K C sp) := by
  obtain ⟨rfl, rfl, rfl, rfl, rfl⟩ := e
  exact op_neO c (hr.mono hk) hne hm
theorem call_strO' (c : Op2 P w K mg base k C "__str__" sp) (hr : Room j X.A) (hk : k + 2 ≤ j) (e : Over X P w K mg base := by exact ⟨rfl, rfl, rfl, rfl, rfl⟩) : CallR X (.type "str") (rReprO C sp) := by
  obtain ⟨rfl, rfl, rfl, rfl, rfl⟩ := e
  exact call_strO c (hr.mono hk)
theorem call_reprO' (c : Op2 P w K mg base k C "__repr__" sp) (hr : Room j X.A) (hk : k + 1 ≤ j) (e : Over X P w K mg base := by exact ⟨rfl, rfl, rfl, rfl, rfl⟩) : CallR X (.builtin "repr") (rReprO C sp) := by
  obtain ⟨rfl, rfl, rfl, rfl, rfl⟩ := e
  exact call_reprO c (hr.mono hk)
theorem call_isi' (e : X.K = K := by (conv => lhs; whnf)) : CallR X (.builtin "isinstance") (rIsi K) := by
  subst e
  exact call_isi
end
/-! the built-ins by their names -/
theorem bt_len : bootBuiltins "len" = some (.builtin "len") := by decide +kernel
theorem bt_abs : bootBuiltins "abs" = some (.builtin "abs") := by decide +kernel
theorem bt_max : bootBuiltins "max" = some (.builtin "max") := by decide +kernel
theorem bt_min : bootBuiltins "min" = some (.builtin "min") := by decide +kernel
theorem bt_divmod : bootBuiltins "divmod" = some (.builtin "divmod") := by decide +kernel
theorem bt_isinstance : bootBuiltins "isinstance" = some (.builtin "isinstance") := by decide +kernel
theorem bt_all : bootBuiltins "all" = some (.builtin "all") := by decide +kernel
theorem bt_any : bootBuiltins "any" = some (.builtin "any") := by decide +kernel
theorem bt_repr : bootBuiltins "repr" = some (.builtin "repr") := by decide +kernel
theorem bt_sorted : bootBuiltins "sorted" = some (.builtin "sorted") := by decide +kernel
theorem bt_enumerate : bootBuiltins "enumerate" = some (.type "enumerate") := by decide +kernel
theorem bt_zip : bootBuiltins "zip" = some (.type "zip") := by decide +kernel
theorem bt_range : bootBuiltins "range" = some (.type "range") := by decide +kernel
theorem bt_sum : bootBuiltins "sum" = some (.builtin "sum") := by decide +kernel
theorem bt_int : bootBuiltins "int" = some (.type "int") := by decide +kernel
theorem bt_str : bootBuiltins "str" = some (.type "str") := by decide +kernel
theorem bt_list : bootBuiltins "list" = some (.type "list") := by decide +kernel
theorem bt_tuple : bootBuiltins "tuple" = some (.type "tuple") := by decide +kernel
theorem bt_bool : bootBuiltins "bool" = some (.type "bool") := by decide +kernel
theorem bt_dict : bootBuiltins "dict" = some (.type "dict") := by decide +kernel
theorem bt_set : bootBuiltins "set" = some (.type "set") := by decide +kernel
theorem bt_type : bootBuiltins "type" = some (.type "type") := by decide +kernel
end Mv
set_option Elab.async false
set_option maxRecDepth 100000
set_option maxHeartbeats 4000000
namespace Mv
open PySem PySem.Spec PyProof.Rows L2
theorem same_new {H : Hp} {p : Addr} {o : HO} (h : H p = none) : Same H (upd H p o) := fun z u e => by rw [upd_ne (ne_of_none e h)]; exact e
/-- a new instance and its dict -/
theorem same_make {H : Hp} {x dx : Addr} {o o' : HO} (hx : H x = none) (hdx : H dx = none) (hne : dx ≠ x) : Same H (upd (upd H dx o) x o') :=
  (same_new hdx).trans (same_new (by rw [upd_ne (Ne.symm hne)]; exact hx))
/-- what a new object's writes leave: H' is H0 but for D -/
theorem same_over {H0 H : Hp} {D : Addr} {o : HO} (s : Same H0 H) (hD : H0 D = none) : Same H0 (upd H D o) := fun z u e => by
  rw [upd_ne (ne_of_none e hD)]; exact s _ _ e
/-- [e for x in xs] over a list that stands still, each item's value told by ys; the items may lay new objects, nothing old changes -/
theorem lc_map {K : PySem.W.Frag} {a : Addr} {xs : List V} {n : Nat} {te : TE} {vs : List Nat} {σ : L2.St} {H0 : Hp} {D : Addr} {Qd : Hp → Prop} (ys : List V) (hl : ys.length = xs.length) (hz : ys.length ≤ 100000) (hD : H0 D = none) (hS : SqL K H0 a xs)
    (hw : ∀ x, wipe ((wipe σ vs).set n (some x)) vs = wipe σ vs)
    (hs : ∀ (i : Nat) (x : V) (H : Hp) (Q : VK), xs[i]? = some x → Same H0 H → (∀ y H4, ys[i]? = some y → Same H H4 → Q y H4) → te ((wipe σ vs).set n (some x)) H Q)
    (hd : ∀ H, Same H0 H → H D = some (.lst ys) → Qd H) :
    ∃ W : Nat → Nat → Hp → Prop, (∃ m, W 0 m (upd H0 D (.lst []))) ∧ ∀ i m H, W i m H →
      ((Itl K a).stop i H ∧ Qd H) ∨ ((Itl K a).go i H ∧ ∃ Nx : Hp → Prop, (∀ H', Nx H' → ∃ m', m' < m ∧ W (i + 1) m' H') ∧ ∀ x H', (Itl K a).yld i H x H' → gName n x (wipe σ vs) H' fun σ2 H2 => wipe σ2 vs = wipe σ vs ∧ tYes σ2 H2 fun b H3 =>
        if b = true then te σ2 H3 fun y H4 => ∃ acc, H4 D = some (.lst acc) ∧ acc.length < sizeLine ∧ Nx (upd H4 D (.lst (acc ++ [y]))) else Nx H3) := by
  refine lc_list (K := K) (a := a) (xs := xs) (fun j H' => Same H0 H' ∧ H' D = some (.lst (ys.take j))) ⟨same_new hD, by rw [upd_same]; simp⟩ (fun j H' _ ⟨s, _⟩ => s.seq hS) ?_ ?_
  · rintro i x H hi ⟨sm, ed⟩
    refine ⟨hw x, hs i x H _ hi sm fun y H4 hy s4 => ⟨_, s4 _ _ ed, ?_, same_over (sm.trans s4) hD, ?_⟩⟩
    · have := (List.getElem?_eq_some_iff.mp hy).1
      rw [List.length_take]; unfold sizeLine; omega
    · rw [upd_same, List.take_add_one, hy]
      rfl
  · rintro H ⟨sm, ed⟩
    exact hd H sm (by rw [ed, ← hl, List.take_length])
/-- the same over range(n) -/
theorem lc_mapR {n : Nat} {k : Nat} {te : TE} {vs : List Nat} {σ : L2.St} {H0 : Hp} {D : Addr} {Qd : Hp → Prop} (ys : List V) (hl : ys.length = n) (hz : ys.length ≤ 100000) (hD : H0 D = none)
    (hw : ∀ x, wipe ((wipe σ vs).set k (some x)) vs = wipe σ vs)
    (hs : ∀ (i : Nat) (H : Hp) (Q : VK), i < n → Same H0 H → (∀ y H4, ys[i]? = some y → Same H H4 → Q y H4) → te ((wipe σ vs).set k (some (.int ((0 : Int) + i)))) H Q)
    (hd : ∀ H, Same H0 H → H D = some (.lst ys) → Qd H) :
    ∃ W : Nat → Nat → Hp → Prop, (∃ m, W 0 m (upd H0 D (.lst []))) ∧ ∀ i m H, W i m H →
      ((Itr 0 n).stop i H ∧ Qd H) ∨ ((Itr 0 n).go i H ∧ ∃ Nx : Hp → Prop, (∀ H', Nx H' → ∃ m', m' < m ∧ W (i + 1) m' H') ∧ ∀ x H', (Itr 0 n).yld i H x H' → gName k x (wipe σ vs) H' fun σ2 H2 => wipe σ2 vs = wipe σ vs ∧ tYes σ2 H2 fun b H3 =>
        if b = true then te σ2 H3 fun y H4 => ∃ acc, H4 D = some (.lst acc) ∧ acc.length < sizeLine ∧ Nx (upd H4 D (.lst (acc ++ [y]))) else Nx H3) := by
  refine lc_range (lo := 0) (n := n) (fun j H' => Same H0 H' ∧ H' D = some (.lst (ys.take j))) ⟨same_new hD, by rw [upd_same]; simp⟩ ?_ ?_
  · rintro i H hi ⟨sm, ed⟩
    refine ⟨hw _, hs i H _ hi sm fun y H4 hy s4 => ⟨_, s4 _ _ ed, ?_, same_over (sm.trans s4) hD, ?_⟩⟩
    · have := (List.getElem?_eq_some_iff.mp hy).1
      rw [List.length_take]; unfold sizeLine; omega
    · rw [upd_same, List.take_add_one, hy]
      rfl
  · rintro H ⟨sm, ed⟩
    exact hd H sm (by rw [ed, ← hl, List.take_length])
end Mv
set_option Elab.async false
set_option maxRecDepth 100000
set_option maxHeartbeats 4000000
namespace Mv
open PySem PySem.Spec PyProof.Rows L2
/-- the law is called where no repr is running: from an abstract heap H that tracks at most the script at a -/
theorem run_law {P : Program} {w : World} {K : PySem.W.Frag} {mg mb : Str → Option Value} {k : Nat} {fa a : Addr} {fd : FuncData} {x : Str} {sp : Sp} {s : Shared} {H : Hp} (KX : K.In s.heap) (hns : s.heap.Ns mainGlobals mg) (hb : s.heap.Ns builtinsNs mb)
    (hbb : ∀ x : Str, x ≠ "__name__" → mb x = bootBuiltins x) (hlim : s.heap.NoLimit) (hg : s.gens = #[]) (hr : Room k callerA) (F : ∀ base : Heap, K.In base → base.Ns mainGlobals mg → FnG P w K mg base k fa fd [x] sp)
    (hbind : ∀ (s : Shared) (u : Value), BindsTo s fd ⟨[u], []⟩ [(x, u)]) (hok : HOk P w H s.heap) (free : ∀ b o, s.heap.get? b = some o → (K.lookup b ≠ none ∨ ∃ es n, o.data = .dict es n) → H b = none)
    (frz : ∀ b u, H b = some u → ∃ o v, u = .frz o v) (hsp : sp [.ref a] H (fun v _ => v = .bl true) E0) :
    codeAny (model P w) callerA (.call (.ref fa) ⟨[.ref a], []⟩) (fun r s' => r = .ok (.ret (.bool true)) ∧ OldK s.heap s'.heap ∧ s'.os = s.os ∧ AllBare s'.gens) s := by
  have ns : ∀ {b : Addr} {m : Str → Option Value}, s.heap.Ns b m → (hidT s.heap H).Ns b m := fun {b m} h => by
    obtain ⟨o, es, ep, e, d, r⟩ := h
    exact ⟨o, es, ep, hidT_get e (free b o e (.inr ⟨es, ep, d⟩)), d, r⟩
  have kb : K.In (hidT s.heap H) := fun b o e => hidT_get (KX b o e) (free b o (KX b o e) (.inl (by rw [e]; simp)))
  have md : Mod K mg (hidT s.heap H) := by
    refine ⟨kb, ns hns, ⟨mb, ns hb, hbb⟩, ?_⟩
    obtain ⟨mc, h1, h2⟩ := hlim
    exact ⟨mc, ns h1, h2⟩
  have e0 : Env0 P w K mg (hidT s.heap H) callerA [] s H :=
    { frames := rfl, mod := md, bs := fun b o e => of_hidT e, bsz := Nat.le_of_eq (hidT_size _ _), funs := trivial, frf := fun b z => by simp [frs] at z, hok := hok, bare := .of_eq hg }
  refine codeAny_mono ((F _ kb (ns hns)).run callerA [] s H ⟨[.ref a], []⟩ [.ref a] [.ref a] _ E0 hr rfl e0 (hbind s (.ref a)) (.cons rfl .nil) hsp) fun r s' h => ?_
  rcases r with e | fl
  · exact False.elim h
  rcases fl with _ | _ | _ | u
  · exact False.elim h
  · exact False.elim h
  · exact False.elim h
  obtain ⟨v, H', os, bare, un, hok', rv, rfl⟩ := h
  obtain rfl : u = Value.bool true := rv
  refine ⟨rfl, OldK.of_keep fun b o e => ?_, os, bare⟩
  by_cases q : H b = none
  · exact un.keep b o e q (by simp [frs]) (by simp)
  · obtain ⟨u, q⟩ := Option.ne_none_iff_exists'.mp q
    obtain ⟨ob, v, rfl⟩ := frz b u q
    have g1 := (hok b _ q).1
    have g2 := (hok' b _ (un.frzs b ob v q)).1
    rw [e] at g1
    cases g1
    exact g2
/-- .. with the script tracked, or as an object of the module -/
theorem law_g {P : Program} {w : World} {K : PySem.W.Frag} {mg mb : Str → Option Value} {k : Nat} {fa a : Addr} {fd : FuncData} {x : Str} {sp : Sp} {s : Shared} {vs : List Value} {ns : List Int} (KX : K.In s.heap) (hns : s.heap.Ns mainGlobals mg) (hb : s.heap.Ns builtinsNs mb)
    (hbb : ∀ x : Str, x ≠ "__name__" → mb x = bootBuiltins x) (hlim : s.heap.NoLimit) (hg : s.gens = #[]) (ha : s.heap.get? a = some { cls := .type "list", data := .seq vs.toArray }) (hi : IntsAre vs ns) (hl : ns.length ≤ sizeLine) (hr : Room k callerA)
    (F : ∀ base : Heap, K.In base → base.Ns mainGlobals mg → FnG P w K mg base k fa fd [x] sp) (hbind : ∀ (s : Shared) (u : Value), BindsTo s fd ⟨[u], []⟩ [(x, u)])
    (hsp : ∀ H : Hp, SqL K H a (ns.map V.int) → sp [.ref a] H (fun v _ => v = .bl true) E0) :
    codeAny (model P w) callerA (.call (.ref fa) ⟨[.ref a], []⟩) (fun r s' => r = .ok (.ret (.bool true)) ∧ OldK s.heap s'.heap ∧ s'.os = s.os ∧ AllBare s'.gens) s := by
  have rv := vals_ints hi
  by_cases hk : K.lookup a = none
  · let so : Obj := { cls := .type "list", data := .seq vs.toArray }
    have at_a : ∀ b u, (if b = a then some (HO.frz so (.lst (ns.map V.int))) else none) = some u → b = a ∧ u = .frz so (.lst (ns.map V.int)) := fun b u z => by
      by_cases e : b = a
      · rw [if_pos e] at z; cases z; exact ⟨e, rfl⟩
      · rw [if_neg e] at z; cases z
    refine run_law (H := fun b => if b = a then some (.frz so (.lst (ns.map V.int))) else none) KX hns hb hbb hlim hg hr F hbind ?_ ?_ ?_ (hsp _ (.inl (.inr ⟨so, if_pos rfl⟩)))
    · intro b u z
      obtain ⟨rfl, rfl⟩ := at_a b u z
      exact ⟨ha, by rw [List.length_map]; exact hl, vs, _, rv, ha⟩
    · intro b o e h
      by_cases eb : b = a
      · subst eb
        rw [ha] at e
        cases e
        rcases h with h | ⟨es, n, h⟩
        · exact absurd hk h
        · cases h
      · exact if_neg eb
    · intro b u z
      obtain ⟨_, rfl⟩ := at_a b u z
      exact ⟨_, _, rfl⟩
  · obtain ⟨o, hko⟩ := Option.ne_none_iff_exists'.mp hk
    have e := KX a o hko
    rw [ha] at e
    cases e
    refine run_law (H := fun _ => none) KX hns hb hbb hlim hg hr F hbind (fun b u z => nomatch z) (fun _ _ _ _ => rfl) (fun b u z => nomatch z) (hsp _ (.inr ⟨_, vs.toArray, _, hko, rfl, rfl, rfl, ?_, by simpa using rv⟩))
    have := hi.length
    simp; omega
theorem walk_g {l : PySem.W.OpenLaw} {n k : Nat} {q : Program} {loose : List Str} {XP : (Str → Option Value) → Heap → Prop} {YP : World → Heap → Prop} {d : DefRec} {K : Params → PySem.W.Frag} {sp : PySem.W.Frag → Sp} {x : Str}
    (hn : l.most = some n) (hn2 : n ≤ sizeLine) (hdf : d.params.defaults = []) (hr : Room k callerA) (hY : ∀ (w : World) (h : Heap), YP w h → (K w.params).In h)
    (F : ∀ (w : World) (mg : Str → Option Value) (fa : Addr) (h : Heap), (K w.params).In h → h.Ns mainGlobals mg → mg d.name = some (.ref fa) →
      ∃ fd : FuncData, (∀ (s : Shared) (u : Value), BindsTo s fd ⟨[u], []⟩ [(x, u)]) ∧ ∀ base : Heap, (K w.params).In base → base.Ns mainGlobals mg → FnG l.prog w (K w.params) mg base k fa fd [x] (sp (K w.params)))
    (hsp : ∀ (K : PySem.W.Frag) (H : Hp) (a : Addr) (ns : List Int), ns.length ≤ n → SqL K H a (ns.map V.int) → sp K [.ref a] H (fun v _ => v = .bl true) E0) :
    PySem.W.WalkO q loose XP YP l.row.toRowW d [] (fun f vs => PySem.call f vs) := by
  refine Att.attach_call hn hdf fun w s₀ s₁ mg mb fa o pm cd doc a vs ns G Y ho hd hcd hmg hobj hints hlen hg => ?_
  obtain ⟨fd, hb, hF⟩ := F w mg fa _ (hY w _ Y) G.T.g hmg
  exact law_g (hY w _ Y) G.T.g G.T.b G.T.builtins G.T.nolimit hg hobj hints (Nat.le_trans hlen hn2) hr hF hb fun H hS => hsp _ H a ns hlen hS
end Mv
set_option Elab.async false
set_option maxRecDepth 100000
set_option maxHeartbeats 4000000
/-! mvhd: the head by facts: the end. -/
namespace Mv
open PySem PySem.Spec PyProof.Rows L2
theorem DM.df {K : PySem.W.Frag} {d : DM} (e : d.see K = d.val) (c : d.ok K = true) : ∃ fd, Df K d.name d.qual d.st (d.dvs K) (d.ad K) fd := by
  have ⟨kp, c2⟩ := Bool.and_eq_true_iff.mp c
  unfold DM.see DM.val at e
  rcases q : K.lookup (d.ad K) with _ | ⟨oc, od, dt, osl⟩
  · rw [q] at c2; cases c2
  · rw [q] at c2 e
    cases dt with
    | func u =>
      have ⟨k1, k2⟩ := Bool.and_eq_true_iff.mp (show (PySem.W.codeIn K u.code d.qual && He.dflB K u.defaults (d.dvs K)) = true from c2)
      have k3 := He.dflB_ok k2
      cases u
      injection e with e
      simp only [Prod.mk.injEq] at e
      obtain ⟨rfl, rfl, h3, h4, h5, h6, h7, h8⟩ := e
      subst h3 h4 h5 h6 h7 h8
      exact ⟨_, ⟨oc, od, _, _, _, _, _, _, _, osl, rfl, q, k1, k3, .inl rfl⟩, kp⟩
    | _ => cases c2
theorem SaM.def_ {fa : List (PySem.W.Frag → Bool)} {fn : List DM} {K : PySem.W.Frag} (c : SaM fa fn K) (i : Nat) {d : DM} (h : fn[i]? = some d) : ∃ fd, Df K d.name d.qual d.st (d.dvs K) (d.ad K) fd := by
  have c1 : ((fa.all fun f => f K) && fn.all fun d => d.ok K) = true := congrArg (fun z : AlM => z.1) c
  have c2 : fn.map (fun d => d.see K) = fn.map DM.val := congrArg (fun z : AlM => z.2) c
  have e : (fn.map fun d => d.see K)[i]? = (fn.map DM.val)[i]? := by rw [c2]
  rw [List.getElem?_map, List.getElem?_map, h] at e
  exact DM.df (Option.some.inj e) (List.all_eq_true.mp (Bool.and_eq_true_iff.mp c1).2 d (List.mem_of_getElem? h))
/-- a def with a keyword-only default -/
theorem kwd_of {K : PySem.W.Frag} {x qual : Str} {st : Stmt} {f : Addr} {fd : FuncData} (F : Df K x qual st [] f fd) {n : Str} {a : Addr} (h : kwAtB K f n a = true) : FunD K x qual (defArgs st) (defBody st) (defScope st) [] [(n, .ref a)] f fd := by
  obtain ⟨oc, od, dV, kV, doc, pm, an, cdv, ct, osl, rfl, lk, hcd, hD, _⟩ := F.ex
  unfold kwAtB at h
  rw [lk] at h
  exact ⟨⟨oc, od, dV, kV, doc, pm, an, cdv, ct, osl, rfl, lk, hcd, hD, He.kwdB_ok h⟩, F.kp⟩
/-- a def with defaults, called with keywords; every parameter is written -/
theorem kbn_d {K : PySem.W.Frag} {x qual : Str} {st : Stmt} {f : Addr} {fd : FuncData} {ps : List Str} {dvs : List V} (F : Df K x qual st dvs f fd) (n : Nat) (ks : List Str) (hd : dvs ≠ []) (g : {α : Type} → List α → List α → List α)
    (hrel : ∀ {vs zs : List V} {us ws : List Value}, Vals vs us → Vals zs ws → Vals (g vs zs) (g us ws))
    (h : ∀ (T : Addr) (kV doc pm : Value) (an : Option Addr) (cdv ct : Value) (us ws its : List Value), us.length = n → ws.length = ks.length → its.length = dvs.length →
      ∃ k, bindArgs (PySem.W.fnOf x qual (defArgs st) (defBody st) (defScope st) (.ref T) kV doc pm an cdv ct) ⟨us, ks.zip ws⟩ = seqItems? (.ref T) >>= k ∧ k (some its.toArray) = pure (ps.zip (g us ws))) :
    KBn K fd ps n ks (fun us ws => g us ws) (fun vs zs => g vs zs) := by
  obtain ⟨oc, od, dV, kV, doc, pm, an, cdv, ct, osl, rfl, lk, hcd, hD, _⟩ := F.ex
  rcases hD with ⟨e, _⟩ | ⟨_, T, o, its, m, rfl, lT, oT, rT⟩
  · exact absurd e hd
  · refine ⟨fun s us ws X l1 l2 => ?_, fun r1 r2 => hrel r1 r2⟩
    obtain ⟨k, e1, e2⟩ := h T kV doc pm an cdv ct us ws its l1 l2 rT.length.symm
    refine BindsTo.of_looks fun M => ?_
    rw [e1]
    exact looks_items X lT oT (.of_pure e2)
/-! ### the end -/
theorem walk_gM {l : PySem.W.OpenLaw} {n k : Nat} {q : Program} {loose : List Str} {XP : (Str → Option Value) → Heap → Prop} {YP : World → Heap → Prop} {d : DefRec} {sp : PySem.W.Frag → Sp} {x : Str}
    (hn : l.most = some n) (hn2 : n ≤ sizeLine) (hdf : d.params.defaults = []) (hr : Room k callerA)
    (F : ∀ (w : World) (mg : Str → Option Value) (fa : Addr) (h : Heap), YP w h → h.Ns mainGlobals mg → mg d.name = some (.ref fa) →
      ∃ (K : PySem.W.Frag) (fd : FuncData), K.In h ∧ (∀ (s : Shared) (u : Value), BindsTo s fd ⟨[u], []⟩ [(x, u)]) ∧ ∀ base : Heap, K.In base → base.Ns mainGlobals mg → FnG l.prog w K mg base k fa fd [x] (sp K))
    (hsp : ∀ (K : PySem.W.Frag) (H : Hp) (a : Addr) (ns : List Int), ns.length ≤ n → SqL K H a (ns.map V.int) → sp K [.ref a] H (fun v _ => v = .bl true) E0) :
    PySem.W.WalkO q loose XP YP l.row.toRowW d [] (fun f vs => PySem.call f vs) := by
  refine Att.attach_call hn hdf fun w s₀ s₁ mg mb fa o pm cd doc a vs ns G Y ho hd hcd hmg hobj hints hlen hg => ?_
  obtain ⟨K, fd, KX, hb, hF⟩ := F w mg fa _ Y G.T.g hmg
  exact law_g KX G.T.g G.T.b G.T.builtins G.T.nolimit hg hobj hints (Nat.le_trans hlen hn2) hr hF hb fun H hS => hsp _ H a ns hlen hS
end Mv
set_option Elab.async false
set_option maxRecDepth 100000
set_option maxHeartbeats 4000000
namespace Mv
open PySem PySem.Spec PyProof.Rows L2
/-! ### len(x) by an own __len__ -/
def rLenO (C : Addr) (sp : Sp) : List V → Hp → VK → Prop := fun xs H Q => ∃ a dx fs, xs = [.ref a] ∧ H a = some (.ins C dx fs) ∧ sp [.ref a] H (fun v H' => ∃ n : Int, v = .int n ∧ 0 ≤ n ∧ n < 2 ^ 63 ∧ Q (.int n) H') E0
section
variable {X : Cx} {k : Nat} {C : Addr} {sp : Sp}
theorem call_lenO (c : Op2 X.prog X.w X.K X.mg X.base k C "__len__" sp) (hr : Room (k + 1) X.A) : CallR X (.builtin "len") (rLenO C sp) := by
  obtain ⟨g, fd, ps, F, hb, hs, hf⟩ := c.ex
  intro pins s σ H xs us Q I r h
  obtain ⟨a, dx, fs, rfl, ea, q⟩ := h
  obtain ⟨u, rfl, ru⟩ := vals1 r
  obtain rfl : u = Value.ref a := ru
  obtain ⟨mA, O, _⟩ := ins_get I.hok ea
  obtain ⟨od, J, _⟩ := O.look
  obtain ⟨m, hF⟩ := I.fr
  refine PySem.W.len_K hF I.ok.mod.kin J hs hf ?_
  refine wpAny_mono (run_at (vs := [.ref a]) F hr.in1 I.ok.frames hb I (.cons rfl .nil) q) (fun w s' z => ?_) fun _ _ x => x
  obtain ⟨z', H', I', rz, n, rfl, h0, h1, qz⟩ := z
  obtain ⟨tk, rfl⟩ := rz
  exact ⟨⟨h0, h1⟩, .int n, H', I'.tok _, ⟨_, rfl⟩, qz⟩
theorem call_lenO' {P : Program} {w : World} {K : PySem.W.Frag} {mg : Str → Option Value} {base : Heap} {j : Nat} (c : Op2 P w K mg base k C "__len__" sp) (hr : Room j X.A) (hk : k + 1 ≤ j) (e : Over X P w K mg base := by exact ⟨rfl, rfl, rfl, rfl, rfl⟩) : CallR X (.builtin "len") (rLenO C sp) := by
  obtain ⟨rfl, rfl, rfl, rfl, rfl⟩ := e
  exact call_lenO c (hr.mono hk)
end
/-! ### lists and tuples alike -/
/-- true: a list, false: a tuple -/
def SqK (b : Bool) (K : PySem.W.Frag) (H : Hp) (a : Addr) (xs : List V) : Prop := if b then SqL K H a xs else SqT K H a xs
def ItK (b : Bool) (K : PySem.W.Frag) (a : Addr) : It := if b then Itl K a else Itt K a
theorem walk_K {b : Bool} {K : PySem.W.Frag} {a : Addr} {xs : List V} : Walk (ItK b K a) xs.length (fun H => SqK b K H a xs) (YAt xs) := by
  cases b
  · exact walk_tup
  · exact walk_list
def iSeq (K : PySem.W.Frag) (te : TE) : TI := fun σ H R => te σ H fun x H1 => ∃ b a xs, x = .ref a ∧ SqK b K H1 a xs ∧ R (ItK b K a) H1
theorem pi_seq {X : Cx} {tg e : Expr} {te : TE} (h : PE X e te) : PI X tg e (iSeq X.K te) := by
  refine ⟨fun pins s σ H R I hh => ?_⟩
  -- both ways, by cases behind the value
  refine thn (h.run pins s σ H _ I hh) fun v s1 ⟨x, H1, I1, r1, b, a, xs, e1, hq, q⟩ => ?_
  subst e1
  cases r1
  cases b with
  | true =>
    obtain ⟨its, rv, p, hz⟩ := I1.list hq
    refine wpAny_pyIter_list p.isList ?_
    refine ⟨s1.heap.objs.size, [s1.heap.objs.size], _, _, H1, rfl, I1.kept (t' := s1.toks) fun b o e => Heap.get?_push_of_some _ e, turn_list a _, ⟨_, Heap.get?_push_size _ rfl, rfl, rfl⟩, fun b hb => ?_, q⟩
    have e : b = s1.heap.objs.size := by simpa using hb
    subst e
    exact I1.fpOk (Nat.le_refl _) (I1.hok.fresh (Nat.le_refl _))
  | false =>
    obtain ⟨its, rv, p, hz⟩ := I1.tuple hq
    refine wpAny_pyIter_tuple (show s1.heap.IsTuple a its.toArray from p) ?_
    refine ⟨s1.heap.objs.size, [s1.heap.objs.size], _, _, H1, rfl, I1.kept (t' := s1.toks) fun b o e => Heap.get?_push_of_some _ e, turn_tuple a _, ⟨_, Heap.get?_push_size _ rfl, rfl, rfl⟩, fun b hb => ?_, q⟩
    have e : b = s1.heap.objs.size := by simpa using hb
    subst e
    exact I1.fpOk (Nat.le_refl _) (I1.hok.fresh (Nat.le_refl _))
/-! ### enumerate of a tuple -/
def IteT (K : PySem.W.Frag) (a : Addr) : It :=
  ⟨fun i H => ∃ (xs : List V) (x : V), SqT K H a xs ∧ xs[i]? = some x, fun i H v H' => ∃ T x, v = .ref T ∧ H T = none ∧ H' = upd H T (.tup [.int (i : Nat), x]) ∧ ∀ xs, SqT K H a xs → xs[i]? = some x, fun i H => ∃ xs : List V, SqT K H a xs ∧ xs.length ≤ i⟩
theorem call_enumB {prog : Program} {w : World} {A : Around} {E : Value → Shared → Prop} {s : Shared} {v : Value} {o : Obj} {Hx : Heap → Prop} {Q : Value → Shared → Prop} (B : Begins v o Hx) (h1 : Hx s.heap)
    (h : ∀ h', IsEnum h' (s.heap.objs.size + 1) s.heap.objs.size 0 .none → h'.get? s.heap.objs.size = some o → h'.objs.size = s.heap.objs.size + 2 →
      (∀ b o, s.heap.get? b = some o → h'.get? b = some o) → Q (.ref (s.heap.objs.size + 1)) { s with heap := h' }) :
    wpAny (model prog w) A (call (.type "enumerate") [v]) Q E s := by
  have mt : Meets (Builtin.«enumerate.__new__» ⟨[.type "enumerate", v], []⟩) (fun _ R s => Hx s.heap ∧
      R (.ok (.ret (.ref (s.heap.push o).objs.size))) { s with heap := (s.heap.push o).push { cls := .type "enumerate", data := .fields #[.none, .bool false, .ref s.heap.objs.size, rawInt 0, .none, .none] } }) :=
    .of_wp fun prog w A R s h => by
      obtain ⟨hp, g, d, tk, os⟩ := s; obtain ⟨h1, h⟩ := h
      have hsub := sub_enumerate
      have q1 : ∀ {A' : Around} {E : Value → Shared → Prop} {Q : Value → Shared → Prop}, Q (.ref hp.objs.size) ⟨hp.push o, g, d, tk, os⟩ → wpAny (model prog w) A' (pyIter v) Q E ⟨hp, g, d, tk, os⟩ :=
        fun q => B.iter prog w _ _ ⟨hp, g, d, tk, os⟩ _ h1 q
      wp_walk using q1
      refine wpAny_stack_any fun st => wpAny_pure ?_
      split
      · rename_i c _ _ _ _ _
        cases (c == Value.type "enumerate")
        · wp_walk using q1
          exact ⟨_, rfl, h⟩
        · wp_walk using q1
          exact ⟨_, rfl, h⟩
      · wp_walk using q1
        exact ⟨_, rfl, h⟩
  refine callType_new F.called_enumerate (by decide) (F.typeCall_enumerate_1 _) (F.newCall_enumerate_1 _) (fun obj => F.args_object_init_2 obj _) F.entry_enumerate_new mt ⟨h1, ?_⟩
  have hz : (s.heap.push o).objs.size = s.heap.objs.size + 1 := Heap.size_push ..
  show _ ∧ _
  rw [hz]
  have he : IsEnum ((s.heap.push o).push { cls := .type "enumerate", data := .fields #[.none, .bool false, .ref s.heap.objs.size, rawInt 0, .none, .none] }) (s.heap.objs.size + 1) s.heap.objs.size 0 .none := by
    have := Heap.get?_push_size (s.heap.push o) (o := { cls := .type "enumerate", data := .fields #[.none, .bool false, .ref s.heap.objs.size, rawInt 0, .none, .none] }) rfl
    rw [hz] at this; exact this
  refine ⟨⟨_, he, rfl⟩, h _ he (Heap.get?_push_of_some _ (Heap.get?_push_size _ B.free)) (by rw [Heap.size_push, hz]) fun b o x => Heap.get?_push_of_some _ (Heap.get?_push_of_some _ x)⟩
theorem turn_enumT {P : Program} {w : World} {K : PySem.W.Frag} {elts : List Expr} {kk : Nat} {tpos : Pos} (a e it : Addr) (hai : a ≠ it) (hae : a ≠ e) :
    Turn P w K (.Tuple elts kk tpos) (IteT K a) [e, it] e (fun i h => (∃ old, IsEnum h e it ((i : Nat) : Int) old) ∧ h.IsTupleIter it a i ∧ e ≠ it) where
  mem := by simp
  obj := fun i h st b hb => by
    obtain ⟨⟨old, he⟩, ⟨o, ho, hc, hd⟩, _⟩ := st
    have e' : b = e ∨ b = it := by simpa using hb
    rcases e' with z | z
    · rw [z]; exact ⟨_, he, fun v q => nomatch q⟩
    · rw [z]; exact ⟨o, ho, fun v q => by rw [hd] at q; cases q⟩
  keep := fun i h h' st k => let ⟨⟨old, he⟩, hi, hne⟩ := st; ⟨⟨old, k e (by simp) _ he⟩, hi.at fun o q => k it (by simp) o q, hne⟩
  item := by
    intro X hP hw hK hc i pins s σ H E I hf st hg
    subst hP hw hK
    obtain ⟨⟨old, he⟩, hit, hne⟩ := st
    obtain ⟨xs, x, hq, hx⟩ := hg
    obtain ⟨its, rv, p, hz⟩ := I.tuple hq
    obtain ⟨u, hu, ru⟩ := rv.get hx
    have hel : e < s.heap.objs.size := Heap.lt_size he
    have hil : it < s.heap.objs.size := by obtain ⟨_, q, _⟩ := hit; exact Heap.lt_size q
    have pt : s.heap.IsTuple a its.toArray := p
    have hu' : its.toArray[i]? = some u := by simpa using hu
    have hlt : i < its.toArray.size := by
      rcases Nat.lt_or_ge i its.toArray.size with z | z
      · exact z
      · rw [Array.getElem?_eq_none z] at hu'; cases hu'
    refine wpAny_pyNext_enum_itemD (Draws.tuple (A := X.A.in1) (I.ok.hd hc) it a hai its.toArray) he ⟨hit, pt⟩ hlt hne (by simp; exact ⟨hne, fun z => hae z.symm⟩) fun x' h' tk hPx ho hst' hT hsz hk => ?_
    obtain rfl : x' = u := by
      have z : its.toArray[i]? = some x' := hPx
      rw [hu'] at z
      exact (Option.some.inj z).symm
    obtain ⟨hit', pt'⟩ := hst'
    refine ⟨_, rfl, wpAny_letOwnedTupleGo_enum (s := { s with heap := h', toks := tk + 1 }) ho fun h'' he' sb => ?_⟩
    have hT2 : h''.get? s.heap.objs.size = some { cls := .type "tuple", data := .seq #[.int i tk, x'] } := (sb.2 _ (Nat.ne_of_gt hel)).trans hT
    have new : ObjOk X.prog X.w (upd H s.heap.objs.size (.tup [.int (i : Nat), x])) h'' s.heap.objs.size (.tup [.int (i : Nat), x]) :=
      ⟨by show 2 ≤ sizeLine; decide, [.int i tk, x'], .cons ⟨_, rfl⟩ (.cons ru .nil), ⟨_, hT2, rfl, _, rfl⟩⟩
    have I1 : Inv X pins σ (upd H s.heap.objs.size (.tup [.int (i : Nat), x])) { s with heap := h'', toks := tk + 1 } :=
      I.turnedNew (ch := [e, it]) (fun b ob hb q => (sb.2 b (fun z => hb (by simp [z]))).trans (hk b ob (fun z => hb (by simp [z])) (fun z => hb (by simp [z])) q)) hf (Nat.le_refl _) new
    refine ⟨.ref s.heap.objs.size, _, I1, rfl, ⟨_, x, rfl, I.hok.fresh (Nat.le_refl _), rfl, fun ys hy => by rw [I.tuple_inj hy hq]; exact hx⟩, ⟨⟨x', ?_⟩, hit'.at fun o q => (sb.2 it (Ne.symm hne)).trans q, hne⟩, fun b hb => ?_⟩
    · have e1 : ((i + 1 : Nat) : Int) = (i : Int) + 1 := by omega
      rw [e1]; exact he'
    · have hb' : b < s.heap.objs.size := by
        have e' : b = e ∨ b = it := by simpa using hb
        rcases e' with z | z
        · rw [z]; exact hel
        · rw [z]; exact hil
      rw [upd_ne (Nat.ne_of_lt hb')]
      exact (hf b hb).1
  done := by
    intro X hP hw hK hc i pins s σ H E I hf st hg
    subst hP hw hK
    obtain ⟨⟨old, he⟩, hit, hne⟩ := st
    obtain ⟨xs, hq, hx⟩ := hg
    obtain ⟨its, rv, p, hz⟩ := I.tuple hq
    obtain ⟨f0, f1, f2, f3, f4, f5⟩ := hf it (by simp)
    have hl := rv.length
    have pt : s.heap.IsTuple a its.toArray := p
    have hT : s.TypeIs (.ref e) "enumerate" := ⟨_, he, rfl⟩
    unfold pyNext
    refine wpAny_bind (wpAny_attempt (wpAny_callSpecial?_slot (name := Str.ofString "__next__") hT F.slot_enumerate_next
      (wpAny_call_entry F.slot_enumerate_next hT F.entry_enumerate_next ?_ (F.args_enumerate_next_1 _))))
    show wpAny _ _ (field (.ref e) 2 >>= _) _ _ _
    refine wpAny_bind (wpAny_field he rfl (x := .ref it) rfl ?_)
    refine wpAny_bind (wpAny_nextOf_tuple_end (I.ok.hd hc) hit pt (by simp; omega) fun h' x eb hx' => ?_)
    obtain ⟨o, ho, hc'⟩ := hx'
    refine wpAny_bind (wpAny_isInstance (T := "StopIteration") (b := true) ⟨o, ho, hc'⟩ isSubtype_stop ?_)
    exact wpAny_pure ⟨rfl, I.turned (t' := s.toks) (fun b o hb q => eb b o hb q) f0 f1 f3 f4 f5⟩
  self := fun A i s Q E st h => let ⟨⟨_, he⟩, _⟩ := st; wpAny_pyIter_enum he h
def IteK (b : Bool) (K : PySem.W.Frag) (a : Addr) : It := if b then Ite K a else IteT K a
theorem walk_enumT {K : PySem.W.Frag} {a : Addr} {xs : List V} : Walk (IteT K a) xs.length (fun H => SqT K H a xs) (YPair (fun i => some (.int (i : Nat))) (fun i => xs[i]?)) := by
  refine ⟨fun i _ hi q => ⟨xs, xs[i], q, by simp [hi]⟩, fun _ q => ⟨xs, q, Nat.le_refl _⟩, fun i H v H' _ q y => ?_⟩
  obtain ⟨T, x, h1, h2, h3, h4⟩ := y
  exact ⟨T, .int (i : Nat), x, h1, h2, h3, rfl, h4 xs q⟩
theorem walk_enumK {b : Bool} {K : PySem.W.Frag} {a : Addr} {xs : List V} : Walk (IteK b K a) xs.length (fun H => SqK b K H a xs) (YPair (fun i => some (.int (i : Nat))) (fun i => xs[i]?)) := by
  cases b
  · exact walk_enumT
  · exact walk_enum
def iEnumA (K : PySem.W.Frag) (ta : TA) : TI := fun σ H R => ta σ H fun vs H1 => ∃ b a xs, vs = [.ref a] ∧ SqK b K H1 a xs ∧ R (IteK b K a) H1
theorem pi_enumA {X : Cx} {e : Expr} {ta : TA} {p pos tpos : Pos} {elts : List Expr} {kk : Nat} (hg : Gl X "enumerate") (hm : X.mg "enumerate" = none) (ha : PA X [e] ta) (hs : starEach [e] X.env = [(false, eval e X.env)] := by rfl) :
    PI X (.Tuple elts kk tpos) (.Call (.Name "enumerate" p) [e] [] pos) (iEnumA X.K ta) := by
  refine ⟨fun pins s σ H R I h => ?_⟩
  refine Call_ (ld_blt I hg hm boot_enumerate (PyProof.Rows.callWith_type1 (thn (ha.run pos pins s σ H _ I h) fun us s1 ⟨vs, H1, I1, r1, q1⟩ => ?_) hs rfl))
  obtain ⟨b, a, xs, ex, hq, q⟩ := q1
  subst ex
  have fresh2 : ∀ b, b ∈ [s1.heap.objs.size + 1, s1.heap.objs.size] → FpOk X pins H1 b := fun b hb => by
    have e' : b = s1.heap.objs.size + 1 ∨ b = s1.heap.objs.size := by simpa using hb
    have hle : s1.heap.objs.size ≤ b := by
      rcases e' with z | z
      · rw [z]; exact Nat.le_add_right _ _
      · rw [z]; exact Nat.le_refl _
    exact I1.fpOk hle (I1.hok.fresh hle)
  cases r1 with
  | cons r rr =>
    cases rr
    cases r
    cases b with
    | true =>
      obtain ⟨its, rv, p', hz⟩ := I1.list hq
      refine call_enumerate_list p'.isList fun h' he hit hsz hk => wpAny_pyIter_enum he ?_
      have I2 : Inv X pins σ H1 { s1 with heap := h' } := I1.kept (t' := s1.toks) hk
      exact ⟨s1.heap.objs.size + 1, [s1.heap.objs.size + 1, s1.heap.objs.size], _, _, H1, rfl, I2, turn_enum a (s1.heap.objs.size + 1) s1.heap.objs.size, ⟨⟨.none, he⟩, hit, Nat.succ_ne_self _⟩, fresh2, q⟩
    | false =>
      obtain ⟨its, rv, p', hz⟩ := I1.tuple hq
      have pt : s1.heap.IsTuple a its.toArray := p'
      have hal : a < s1.heap.objs.size := by obtain ⟨_, q, _⟩ := id pt; exact Heap.lt_size q
      refine call_enumB (begins_tuple a its.toArray) pt fun h' he hit hsz hk => wpAny_pyIter_enum he ?_
      have I2 : Inv X pins σ H1 { s1 with heap := h' } := I1.kept (t' := s1.toks) hk
      exact ⟨s1.heap.objs.size + 1, [s1.heap.objs.size + 1, s1.heap.objs.size], _, _, H1, rfl, I2, turn_enumT a (s1.heap.objs.size + 1) s1.heap.objs.size (Nat.ne_of_lt hal) (Nat.ne_of_lt (Nat.lt_succ_of_lt hal)), ⟨⟨.none, he⟩, ⟨_, hit, rfl, rfl⟩, Nat.succ_ne_self _⟩, fresh2, q⟩
/-- zip of tuples -/
theorem walk_zipT {K : PySem.W.Frag} {a b : Addr} {xs ys : List V} {n : Nat} (hn : n = min xs.length ys.length) : Walk (RZ.ItzT K a b) n (fun H => SqT K H a xs ∧ SqT K H b ys) (YPair (fun i => xs[i]?) (fun i => ys[i]?)) := by
  subst hn
  refine ⟨fun i _ hi q => ?_, fun _ q => ⟨xs, ys, q.1, q.2, by omega⟩, fun i H v H' _ q y => ?_⟩
  · have h1 : i < xs.length := by omega
    have h2 : i < ys.length := by omega
    exact ⟨xs, ys, xs[i], ys[i], q.1, q.2, by simp [h1], by simp [h2]⟩
  · obtain ⟨T, x, z, h1, h2, h3, h4, h5⟩ := y
    exact ⟨T, x, z, h1, h2, h3, h4 xs q.1, h5 ys q.2⟩
end Mv
set_option Elab.async false
set_option maxRecDepth 100000
set_option maxHeartbeats 4000000
namespace L2
open PySem PySem.Spec PyProof.Rows Mv
/-! ### data on the heap -/
theorem Same.rd {H H' : Hp} {a : Addr} {u : HO} (e : Same H H') (h : Rd H a u) : Rd H' a u := by
  rcases h with h | ⟨o, h⟩
  · exact .inl (e a _ h)
  · exact .inr ⟨o, e a _ h⟩
theorem Same.tup {K : PySem.W.Frag} {H H' : Hp} {a : Addr} {xs : List V} (e : Same H H') (h : SqT K H a xs) : SqT K H' a xs := by
  rcases h with h | h
  · exact .inl (Same.rd e h)
  · exact .inr h
theorem Same.sqk {K : PySem.W.Frag} {H H' : Hp} {b : Bool} {a : Addr} {xs : List V} (e : Same H H') (h : SqK b K H a xs) : SqK b K H' a xs := by
  cases b
  · exact Same.tup e h
  · exact e.seq h
section
variable {K : PySem.W.Frag} {H H' : Hp}
mutual
theorem Dp.same (s : Same H H') : ∀ (d : PyData) (v : V), Dp K H v d → Dp K H' v d
  | .none, _, h => by cases h; exact .non
  | .bool b, _, h => by cases h; exact .bl b
  | .int i, _, h => by cases h; exact .int i
  | .str x, _, h => by cases h; exact .str x
  | .list ds, _, h => by
    cases h with
    | lst hs ha => exact .lst (s.seq hs) (DpAll.same s ds _ ha)
  | .tuple ds, _, h => by
    cases h with
    | tup hs ha => exact .tup (Same.tup s hs) (DpAll.same s ds _ ha)
  | .dict _, _, h => by cases h
theorem DpAll.same (s : Same H H') : ∀ (ds : List PyData) (vs : List V), DpAll K H vs ds → DpAll K H' vs ds
  | [], _, h => by cases h; exact .nil
  | d :: ds, _, h => by
    cases h with
    | cons h1 h2 => exact .cons (Dp.same s d _ h1) (DpAll.same s ds _ h2)
end
theorem Dp.up {d : PyData} {v : V} (h : Dp K H v d) (s : Same H H') : Dp K H' v d := Dp.same s d v h
theorem DpAll.up {ds : List PyData} {vs : List V} (h : DpAll K H vs ds) (s : Same H H') : DpAll K H' vs ds := DpAll.same s ds vs h
theorem Dp.lstE {v : V} {ds : List PyData} (h : Dp K H v (.list ds)) : ∃ a xs, v = .ref a ∧ SqL K H a xs ∧ DpAll K H xs ds := by
  cases h with
  | lst hs ha => exact ⟨_, _, rfl, hs, ha⟩
theorem Dp.tupE {v : V} {ds : List PyData} (h : Dp K H v (.tuple ds)) : ∃ a xs, v = .ref a ∧ SqT K H a xs ∧ DpAll K H xs ds := by
  cases h with
  | tup hs ha => exact ⟨_, _, rfl, hs, ha⟩
theorem Dp.intE {v : V} {i : Int} (h : Dp K H v (.int i)) : v = .int i := by cases h; rfl
theorem Dp.strE {v : V} {x : Str} (h : Dp K H v (.str x)) : v = .str x := by cases h; rfl
theorem Dp.blE {v : V} {x : Bool} (h : Dp K H v (.bool x)) : v = .bl x := by cases h; rfl
/-- a list (true) or a tuple -/
def dSeq (b : Bool) (ds : List PyData) : PyData := if b then .list ds else .tuple ds
theorem Dp.seqE {b : Bool} {v : V} {ds : List PyData} (h : Dp K H v (dSeq b ds)) : ∃ a xs, v = .ref a ∧ SqK b K H a xs ∧ DpAll K H xs ds := by
  cases b
  · exact Dp.tupE h
  · exact Dp.lstE h
theorem Dp.seq {b : Bool} {a : Addr} {xs : List V} {ds : List PyData} (h : SqK b K H a xs) (ha : DpAll K H xs ds) : Dp K H (.ref a) (dSeq b ds) := by
  cases b
  · exact .tup h ha
  · exact .lst h ha
theorem DpAll.len : ∀ {xs : List V} {ds : List PyData}, DpAll K H xs ds → xs.length = ds.length
  | _, _, .nil => rfl
  | _, _, .cons _ h => by rw [List.length_cons, List.length_cons, DpAll.len h]
theorem DpAll.get : ∀ {xs : List V} {ds : List PyData} {i : Nat} {x : V}, DpAll K H xs ds → xs[i]? = some x → ∃ d, ds[i]? = some d ∧ Dp K H x d
  | _, _, _, _, .nil, e => by simp at e
  | _, _, 0, _, .cons h _, e => by
    obtain rfl := Option.some.inj e
    exact ⟨_, rfl, h⟩
  | _, _, i + 1, _, .cons _ h, e => by
    obtain ⟨d, e2, q⟩ := DpAll.get (i := i) h (by simpa using e)
    exact ⟨d, by simpa using e2, q⟩
theorem DpAll.got : ∀ {xs : List V} {ds : List PyData} {i : Nat} {d : PyData}, DpAll K H xs ds → ds[i]? = some d → ∃ x, xs[i]? = some x ∧ Dp K H x d
  | _, _, _, _, .nil, e => by simp at e
  | _, _, 0, _, .cons h _, e => by
    obtain rfl := Option.some.inj e
    exact ⟨_, rfl, h⟩
  | _, _, i + 1, _, .cons _ h, e => by
    obtain ⟨d, e2, q⟩ := DpAll.got (i := i) h (by simpa using e)
    exact ⟨d, by simpa using e2, q⟩
theorem DpAll.app : ∀ {xs ys : List V} {ds es : List PyData}, DpAll K H xs ds → DpAll K H ys es → DpAll K H (xs ++ ys) (ds ++ es)
  | _, _, _, _, .nil, h => h
  | _, _, _, _, .cons a h, g => .cons a (DpAll.app h g)
theorem DpAll.rev : ∀ {xs : List V} {ds : List PyData}, DpAll K H xs ds → DpAll K H xs.reverse ds.reverse
  | _, _, .nil => .nil
  | _, _, .cons a h => by
    rw [List.reverse_cons, List.reverse_cons]
    exact (DpAll.rev h).app (.cons a .nil)
theorem DpAll.take : ∀ {xs : List V} {ds : List PyData} (n : Nat), DpAll K H xs ds → DpAll K H (xs.take n) (ds.take n)
  | _, _, 0, _ => by simp; exact .nil
  | _, _, _ + 1, .nil => by simp; exact .nil
  | _, _, n + 1, .cons a h => .cons a (DpAll.take n h)
theorem DpAll.drop : ∀ {xs : List V} {ds : List PyData} (n : Nat), DpAll K H xs ds → DpAll K H (xs.drop n) (ds.drop n)
  | _, _, 0, h => h
  | _, _, _ + 1, .nil => by simp; exact .nil
  | _, _, n + 1, .cons _ h => DpAll.drop n h
theorem DpAll.erase : ∀ {xs : List V} {ds : List PyData} (n : Nat), DpAll K H xs ds → DpAll K H (xs.eraseIdx n) (ds.eraseIdx n)
  | _, _, _, .nil => by simp; exact .nil
  | _, _, 0, .cons _ h => h
  | _, _, n + 1, .cons a h => .cons a (DpAll.erase n h)
theorem DpAll.set : ∀ {xs : List V} {ds : List PyData} (n : Nat) {x : V} {d : PyData}, DpAll K H xs ds → Dp K H x d → DpAll K H (xs.set n x) (ds.set n d)
  | _, _, _, _, _, .nil, _ => by simp; exact .nil
  | _, _, 0, _, _, .cons _ h, g => .cons g h
  | _, _, n + 1, _, _, .cons a h, g => .cons a (DpAll.set n h g)
theorem DpAll.ints : ∀ (is : List Int), DpAll K H (is.map V.int) (is.map PyData.int)
  | [] => .nil
  | i :: is => .cons (.int i) (DpAll.ints is)
theorem DpAll.intsE : ∀ {xs : List V} {is : List Int}, DpAll K H xs (is.map PyData.int) → xs = is.map V.int
  | _, [], .nil => rfl
  | _, i :: is, .cons a h => by rw [a.intE, DpAll.intsE h]; rfl
theorem DpAll.bools : ∀ (is : List Bool), DpAll K H (is.map V.bl) (is.map PyData.bool)
  | [] => .nil
  | i :: is => .cons (.bl i) (DpAll.bools is)
theorem DpAll.boolsE : ∀ {xs : List V} {is : List Bool}, DpAll K H xs (is.map PyData.bool) → xs = is.map V.bl
  | _, [], .nil => rfl
  | _, i :: is, .cons a h => by rw [a.blE, DpAll.boolsE h]; rfl
/-! a tuple of integers -/
theorem Dp.tupI {a : Addr} {is : List Int} (h : SqT K H a (is.map V.int)) : Dp K H (.ref a) (.tuple (is.map .int)) := .tup h (DpAll.ints is)
theorem Dp.tupIE {v : V} {is : List Int} (h : Dp K H v (.tuple (is.map .int))) : ∃ a, v = .ref a ∧ SqT K H a (is.map V.int) := by
  obtain ⟨a, xs, e, hs, ha⟩ := h.tupE
  exact ⟨a, e, by rw [← ha.intsE]; exact hs⟩
/-! data without lists: it stands while lists change -/
mutual
def NL : PyData → Bool
  | .none | .bool _ | .int _ | .str _ => true
  | .list _ | .dict _ => false
  | .tuple xs => NLs xs
def NLs : List PyData → Bool
  | [] => true
  | x :: xs => NL x && NLs xs
end
/-- all is kept but the list at p -/
def Bu (p : Addr) (H H' : Hp) : Prop := ∀ b o, b ≠ p → H b = some o → H' b = some o
theorem Bu.of (s : Same H H') (p : Addr) : Bu p H H' := fun b o _ e => s b o e
theorem Bu.refl (p : Addr) (H : Hp) : Bu p H H := fun _ _ _ e => e
theorem Bu.trans {p : Addr} {H H1 H2 : Hp} (a : Bu p H H1) (b : Bu p H1 H2) : Bu p H H2 := fun c o n e => b c o n (a c o n e)
theorem Bu.set {p : Addr} {o : HO} : Bu p H (upd H p o) := fun b u n e => by rw [upd_ne n]; exact e
theorem Bu.new {p q : Addr} {o : HO} (hq : H q = none) : Bu p H (upd H q o) := fun b u _ e => by rw [upd_ne (ne_of_none e hq)]; exact e
theorem Bu.sqt {p : Addr} {ys : List V} (b : Bu p H H') (hp : H p = some (.lst ys)) {a : Addr} {xs : List V} (h : SqT K H a xs) : SqT K H' a xs := by
  rcases h with (h | ⟨o, h⟩) | h
  · exact .inl (.inl (b a _ (fun z => by rw [z, hp] at h; cases h) h))
  · exact .inl (.inr ⟨o, b a _ (fun z => by rw [z, hp] at h; cases h) h⟩)
  · exact .inr h
mutual
theorem Dp.bu' {p : Addr} {ys : List V} (b : Bu p H H') (hp : H p = some (.lst ys)) : ∀ (d : PyData) (v : V), NL d = true → Dp K H v d → Dp K H' v d
  | .none, _, _, h => by cases h; exact .non
  | .bool b, _, _, h => by cases h; exact .bl b
  | .int i, _, _, h => by cases h; exact .int i
  | .str x, _, _, h => by cases h; exact .str x
  | .list ds, _, n, h => by simp [NL] at n
  | .tuple ds, _, n, h => by
    cases h with
    | tup hs ha => exact .tup (b.sqt hp hs) (DpAll.bu' b hp ds _ (by simpa [NL] using n) ha)
  | .dict _, _, _, h => by cases h
theorem DpAll.bu' {p : Addr} {ys : List V} (b : Bu p H H') (hp : H p = some (.lst ys)) : ∀ (ds : List PyData) (vs : List V), NLs ds = true → DpAll K H vs ds → DpAll K H' vs ds
  | [], _, _, h => by cases h; exact .nil
  | d :: ds, _, n, h => by
    cases h with
    | cons h1 h2 =>
      have n' : NL d = true ∧ NLs ds = true := by simpa [NLs] using n
      exact .cons (Dp.bu' b hp d _ n'.1 h1) (DpAll.bu' b hp ds _ n'.2 h2)
end
theorem Dp.bu {p : Addr} {ys : List V} {d : PyData} {v : V} (h : Dp K H v d) (n : NL d = true) (b : Bu p H H') (hp : H p = some (.lst ys)) : Dp K H' v d := Dp.bu' b hp d v n h
theorem DpAll.bu {p : Addr} {ys : List V} {ds : List PyData} {vs : List V} (h : DpAll K H vs ds) (n : NLs ds = true) (b : Bu p H H') (hp : H p = some (.lst ys)) : DpAll K H' vs ds := DpAll.bu' b hp ds vs n h
theorem NLs.of : ∀ {ds : List PyData}, (∀ d ∈ ds, NL d = true) → NLs ds = true
  | [], _ => rfl
  | d :: ds, h => by
    have := NLs.of (ds := ds) fun x hx => h x (List.mem_cons_of_mem _ hx)
    simp [NLs, h d (List.mem_cons_self ..), this]
theorem NLs.mem : ∀ {ds : List PyData}, NLs ds = true → ∀ d ∈ ds, NL d = true
  | [], _, _, h => by cases h
  | d :: ds, n, x, h => by
    have n' : NL d = true ∧ NLs ds = true := by simpa [NLs] using n
    rcases List.mem_cons.mp h with rfl | h
    · exact n'.1
    · exact NLs.mem n'.2 x h
theorem NLs.take {ds : List PyData} (h : NLs ds = true) (n : Nat) : NLs (ds.take n) = true := NLs.of fun d hd => NLs.mem h d (List.mem_of_mem_take hd)
theorem NLs.ints (is : List Int) : NLs (is.map PyData.int) = true := NLs.of fun d hd => by
  obtain ⟨i, _, rfl⟩ := List.mem_map.mp hd
  rfl
theorem NL.ints (is : List Int) : NL (.tuple (is.map PyData.int)) = true := by simp [NL, NLs.ints]
/-- a comprehension whose items are data without lists, told by es; nothing old changes -/
theorem lc_nl {J : It} {n : Nat} {G : Hp → Prop} {Y : Nat → Hp → V → Hp → Prop} (w : Walk J n G Y) {g : TG} {te : TE} {vs : List Nat} {σ : L2.St} {H1 : Hp} {D : Addr} {Qd : Hp → Prop} (es : List PyData) (hn : es.length = n) (hz : n ≤ 100000) (hl : NLs es = true) (hD : H1 D = none)
    (hG : ∀ H, Same H1 H → G H)
    (hs : ∀ (i : Nat) (e : PyData) (x : V) (H H' : Hp) (Q : VK), i < n → es[i]? = some e → Same H1 H → Y i H x H' → (∀ y H4, Same H H4 → Dp K H4 y e → Q y H4) →
      g x (wipe σ vs) H' fun σ2 H2 => wipe σ2 vs = wipe σ vs ∧ te σ2 H2 Q)
    (hd : ∀ H ys, Same H1 H → H D = some (.lst ys) → DpAll K H ys es → Qd H) (hg : ∀ x σ' H' (P Q : L2.St → Hp → Prop), (∀ σ2 H2, P σ2 H2 → Q σ2 H2) → g x σ' H' P → g x σ' H' Q) :
    ∃ W : Nat → Nat → Hp → Prop, (∃ m, W 0 m (upd H1 D (.lst []))) ∧ ∀ i m H, W i m H →
      (J.stop i H ∧ Qd H) ∨ (J.go i H ∧ ∃ Nx : Hp → Prop, (∀ H', Nx H' → ∃ m', m' < m ∧ W (i + 1) m' H') ∧ ∀ x H', J.yld i H x H' → g x (wipe σ vs) H' fun σ2 H2 => wipe σ2 vs = wipe σ vs ∧ tYes σ2 H2 fun b H3 =>
        if b = true then te σ2 H3 fun y H4 => ∃ acc, H4 D = some (.lst acc) ∧ acc.length < sizeLine ∧ Nx (upd H4 D (.lst (acc ++ [y]))) else Nx H3) := by
  refine lc_it w (fun i H => Same H1 H ∧ ∃ ys, H D = some (.lst ys) ∧ DpAll K H ys (es.take i)) ⟨same_new hD, [], upd_same, by simp; exact .nil⟩ (fun i H _ h => hG H h.1) ?_ ?_
  · rintro i x H H' hi ⟨s, ys, ed, ha⟩ hy
    have he : es[i]? = some es[i] := List.getElem?_eq_getElem (by omega)
    refine hg x _ H' _ _ (fun σ2 H2 h => ⟨h.1, h.2⟩) (hs i es[i] x H H' (fun y H4 => ∃ acc, H4 D = some (.lst acc) ∧ acc.length < sizeLine ∧ Same H1 (upd H4 D (.lst (acc ++ [y]))) ∧ ∃ ys, upd H4 D (.lst (acc ++ [y])) D = some (.lst ys) ∧ DpAll K (upd H4 D (.lst (acc ++ [y]))) ys (es.take (i + 1))) hi he s hy fun y H4 s4 dy => ?_)
    have e4 := s4 _ _ ed
    have hlen := ha.len
    refine ⟨ys, e4, ?_, same_over (s.trans s4) hD, ys ++ [y], upd_same, ?_⟩
    · rw [hlen, List.length_take]; unfold sizeLine; omega
    · rw [List.take_add_one, he]
      exact ((ha.up s4).bu (NLs.take hl i) Bu.set e4).app (.cons (dy.bu (NLs.mem hl _ (List.getElem_mem _)) Bu.set e4) .nil)
  · rintro H ⟨s, ys, ed, ha⟩
    refine hd H ys s ed ?_
    rw [← hn, List.take_length] at ha
    exact ha
theorem gName_mono {k : Nat} (x : V) (σ' : L2.St) (H' : Hp) (P Q : L2.St → Hp → Prop) (h : ∀ σ2 H2, P σ2 H2 → Q σ2 H2) (p : gName k x σ' H' P) : gName k x σ' H' Q := h _ _ p
theorem gTup2_mono {n k j : Nat} (x : V) (σ' : L2.St) (H' : Hp) (P Q : L2.St → Hp → Prop) (h : ∀ σ2 H2, P σ2 H2 → Q σ2 H2) (p : gTup K n (gCons (gName k) (gCons (gName j) gNil)) x σ' H' P) : gTup K n (gCons (gName k) (gCons (gName j) gNil)) x σ' H' Q := by
  obtain ⟨a, xs, e, hs, hl, v, r, e1, v2, r2, e2, e3, q⟩ := p
  exact ⟨a, xs, e, hs, hl, v, r, e1, v2, r2, e2, e3, h _ _ q⟩
/-! == and repr of data -/
theorem shaped_of {d : PyData} (h : d.canLay0 = true) (hd : d.depth ≤ 64) : SeqAt.shaped d = true := by
  unfold SeqAt.shaped
  rw [h, decide_eq_true hd]
  rfl
end
end L2
set_option Elab.async false
namespace Pm
/-- a cut: axis (0 east, 1 north), parts -/
abbrev Cut := Nat × Nat
def wid : List Cut → Nat → Nat
  | [], _ => 1
  | (a, p) :: r, ax => (if a = ax then p else 1) * wid r ax
def size : List Cut → Nat
  | [] => 1
  | (_, p) :: r => p * size r
/-- the number along an axis of a sign, the cuts from the last one on -/
def al : List Cut → Nat → Nat → Nat
  | [], _, _ => 0
  | (a, p) :: r, s, ax => if a = ax then s % p + p * al r (s / p) ax else al r (s / p) ax
def CutOk (c : Cut) : Prop := c.1 < 2 ∧ 2 ≤ c.2 ∧ c.2 ≤ 4
def RndOk (r : List Cut) : Prop := 1 ≤ r.length ∧ r.length ≤ 5 ∧ (∀ c ∈ r, CutOk c) ∧ size r ≤ 32
instance (c : Cut) : Decidable (CutOk c) := by unfold CutOk; infer_instance
instance (r : List Cut) : Decidable (RndOk r) := by unfold RndOk; infer_instance
def tot (rs : List (List Cut)) (ax : Nat) : Nat := (rs.map fun r => wid r ax).foldr (· * ·) 1
def RdsOk (rs : List (List Cut)) : Prop := 1 ≤ rs.length ∧ rs.length ≤ 3 ∧ (∀ r ∈ rs, RndOk r) ∧ tot rs 0 = tot rs 1
instance (rs : List (List Cut)) : Decidable (RdsOk rs) := by unfold RdsOk; infer_instance
def rnd (rs : List (List Cut)) (k : Nat) : List Cut := rs.getD (k % rs.length) []
def W (rs : List (List Cut)) (ax k : Nat) : Nat := wid (rnd rs k) ax
def S (rs : List (List Cut)) (k : Nat) : Nat := size (rnd rs k)
def cnt (rs : List (List Cut)) (ax : Nat) : Nat → Nat
  | 0 => 1
  | k + 1 => cnt rs ax k * W rs ax k
def A (rs : List (List Cut)) (ax k g : Nat) : Nat := al (rnd rs k).reverse g ax
def nm (rs : List (List Cut)) (ax : Nat) (f : Nat → Nat) : Nat → Nat
  | 0 => 0
  | k + 1 => nm rs ax f k * W rs ax k + A rs ax k (f k)
/-! one round -/
theorem wid_app (r q : List Cut) (ax : Nat) : wid (r ++ q) ax = wid r ax * wid q ax := by
  induction r with
  | nil => simp [wid]
  | cons c r ih => obtain ⟨a, p⟩ := c; simp only [List.cons_append, wid, ih, Nat.mul_assoc]
theorem size_app (r q : List Cut) : size (r ++ q) = size r * size q := by
  induction r with
  | nil => simp [size]
  | cons c r ih => obtain ⟨a, p⟩ := c; simp only [List.cons_append, size, ih, Nat.mul_assoc]
theorem wid_perm {r q : List Cut} (h : r.Perm q) (ax : Nat) : wid r ax = wid q ax := by
  induction h with
  | nil => rfl
  | cons c _ ih => obtain ⟨a, p⟩ := c; simp only [wid, ih]
  | swap c d l => obtain ⟨a, p⟩ := c; obtain ⟨b, q⟩ := d; simp only [wid]; rw [← Nat.mul_assoc, ← Nat.mul_assoc, Nat.mul_comm (if b = ax then q else 1)]
  | trans _ _ i1 i2 => exact i1.trans i2
theorem size_perm {r q : List Cut} (h : r.Perm q) : size r = size q := by
  induction h with
  | nil => rfl
  | cons c _ ih => obtain ⟨a, p⟩ := c; simp only [size, ih]
  | swap c d l => obtain ⟨a, p⟩ := c; obtain ⟨b, q⟩ := d; simp only [size]; rw [← Nat.mul_assoc, ← Nat.mul_assoc, Nat.mul_comm q]
  | trans _ _ i1 i2 => exact i1.trans i2
theorem wid_rev (r : List Cut) (ax : Nat) : wid r.reverse ax = wid r ax := wid_perm (List.reverse_perm r) ax
theorem size_rev (r : List Cut) : size r.reverse = size r := size_perm (List.reverse_perm r)
theorem wid_pos {r : List Cut} (h : ∀ c ∈ r, CutOk c) (ax : Nat) : 0 < wid r ax := by
  induction r with
  | nil => simp [wid]
  | cons c r ih =>
    obtain ⟨a, p⟩ := c
    have h1 := h (a, p) (List.mem_cons_self ..)
    have h2 := ih fun c hc => h c (List.mem_cons_of_mem _ hc)
    simp only [wid]
    refine Nat.mul_pos ?_ h2
    split
    · exact Nat.lt_of_lt_of_le (by decide) h1.2.1
    · exact Nat.one_pos
theorem size_pos {r : List Cut} (h : ∀ c ∈ r, CutOk c) : 0 < size r := by
  induction r with
  | nil => simp [size]
  | cons c r ih =>
    obtain ⟨a, p⟩ := c
    have h1 := h (a, p) (List.mem_cons_self ..)
    have h2 := ih fun c hc => h c (List.mem_cons_of_mem _ hc)
    exact Nat.mul_pos (Nat.lt_of_lt_of_le (by decide) h1.2.1) h2
theorem size_wid {r : List Cut} (h : ∀ c ∈ r, CutOk c) : size r = wid r 0 * wid r 1 := by
  induction r with
  | nil => rfl
  | cons c r ih =>
    obtain ⟨a, p⟩ := c
    have h1 := h (a, p) (List.mem_cons_self ..)
    have h2 := ih fun c hc => h c (List.mem_cons_of_mem _ hc)
    have ha : a = 0 ∨ a = 1 := by have := h1.1; simp at this; omega
    simp only [size, wid, h2]
    rcases ha with rfl | rfl
    · simp [Nat.mul_assoc]
    · simp only [Nat.one_ne_zero, if_false, if_true, Nat.one_mul]
      rw [Nat.mul_left_comm]
theorem al_lt {r : List Cut} (h : ∀ c ∈ r, CutOk c) (s ax : Nat) : al r s ax < wid r ax := by
  induction r generalizing s with
  | nil => simp [al, wid]
  | cons c r ih =>
    obtain ⟨a, p⟩ := c
    have h1 := h (a, p) (List.mem_cons_self ..)
    have h2 := ih (fun c hc => h c (List.mem_cons_of_mem _ hc)) (s / p)
    have hp : 0 < p := Nat.lt_of_lt_of_le (by decide) h1.2.1
    simp only [al, wid]
    split
    · have hm := Nat.mod_lt s hp
      calc s % p + p * al r (s / p) ax < p + p * al r (s / p) ax := by omega
        _ = p * (al r (s / p) ax + 1) := by rw [Nat.mul_add, Nat.mul_one, Nat.add_comm]
        _ ≤ p * wid r ax := Nat.mul_le_mul_left p h2
    · rw [Nat.one_mul]; exact h2
theorem al_inj {r : List Cut} (h : ∀ c ∈ r, CutOk c) {s t : Nat} (hs : s < size r) (ht : t < size r) (h0 : al r s 0 = al r t 0) (h1 : al r s 1 = al r t 1) : s = t := by
  induction r generalizing s t with
  | nil => simp [size] at hs ht; omega
  | cons c r ih =>
    obtain ⟨a, p⟩ := c
    have hc := h (a, p) (List.mem_cons_self ..)
    have hp : 0 < p := Nat.lt_of_lt_of_le (by decide) hc.2.1
    have ha : a = 0 ∨ a = 1 := by have := hc.1; simp at this; omega
    have hr : ∀ c ∈ r, CutOk c := fun c hc => h c (List.mem_cons_of_mem _ hc)
    have ds : s / p < size r := Nat.div_lt_of_lt_mul (by simpa [size] using hs)
    have dt : t / p < size r := Nat.div_lt_of_lt_mul (by simpa [size] using ht)
    have split2 : ∀ {x y u v : Nat}, x < p → y < p → x + p * u = y + p * v → x = y ∧ u = v := by
      intro x y u v hx hy e
      have e1 : (x + p * u) % p = (y + p * v) % p := by rw [e]
      rw [Nat.add_mul_mod_self_left, Nat.add_mul_mod_self_left, Nat.mod_eq_of_lt hx, Nat.mod_eq_of_lt hy] at e1
      subst e1
      have e2 : p * u = p * v := by omega
      exact ⟨rfl, Nat.eq_of_mul_eq_mul_left hp e2⟩
    have key : s % p = t % p ∧ s / p = t / p := by
      simp only [al] at h0 h1
      rcases ha with rfl | rfl
      · simp only [if_true, Nat.zero_ne_one, if_false] at h0 h1
        obtain ⟨e1, e2⟩ := split2 (Nat.mod_lt s hp) (Nat.mod_lt t hp) h0
        exact ⟨e1, ih hr ds dt e2 h1⟩
      · simp only [if_true, Nat.one_ne_zero, if_false] at h0 h1
        obtain ⟨e1, e2⟩ := split2 (Nat.mod_lt s hp) (Nat.mod_lt t hp) h1
        exact ⟨e1, ih hr ds dt h0 e2⟩
    rw [← Nat.mod_add_div s p, ← Nat.mod_add_div t p, key.1, key.2]
/-! rounds -/
theorem rnd_mem {rs : List (List Cut)} (h : 1 ≤ rs.length) (k : Nat) : rnd rs k ∈ rs := by
  have hk : k % rs.length < rs.length := Nat.mod_lt k h
  unfold rnd
  rw [List.getD_eq_getElem?_getD, List.getElem?_eq_getElem hk]
  exact List.getElem_mem hk
theorem rnd_get {rs : List (List Cut)} (h : 1 ≤ rs.length) (k : Nat) : rs[k % rs.length]? = some (rnd rs k) := by
  have hk : k % rs.length < rs.length := Nat.mod_lt k h
  unfold rnd
  rw [List.getD_eq_getElem?_getD, List.getElem?_eq_getElem hk]
  rfl
theorem RdsOk.rnd {rs : List (List Cut)} (h : RdsOk rs) (k : Nat) : RndOk (rnd rs k) := h.2.2.1 _ (rnd_mem h.1 k)
theorem RdsOk.cut {rs : List (List Cut)} (h : RdsOk rs) (k : Nat) : ∀ c ∈ Pm.rnd rs k, CutOk c := (h.rnd k).2.2.1
theorem RdsOk.W {rs : List (List Cut)} (h : RdsOk rs) (ax k : Nat) : 0 < W rs ax k := wid_pos (h.cut k) ax
theorem RdsOk.S {rs : List (List Cut)} (h : RdsOk rs) (k : Nat) : 0 < S rs k := size_pos (h.cut k)
theorem RdsOk.S32 {rs : List (List Cut)} (h : RdsOk rs) (k : Nat) : Pm.S rs k ≤ 32 := (h.rnd k).2.2.2
theorem RdsOk.SW {rs : List (List Cut)} (h : RdsOk rs) (k : Nat) : Pm.S rs k = Pm.W rs 0 k * Pm.W rs 1 k := size_wid (h.cut k)
theorem RdsOk.W32 {rs : List (List Cut)} (h : RdsOk rs) (k : Nat) : Pm.W rs 0 k ≤ 32 ∧ Pm.W rs 1 k ≤ 32 := by
  have e := h.SW k
  have l := h.S32 k
  have p0 := h.W 0 k
  have p1 := h.W 1 k
  constructor
  · have := Nat.le_mul_of_pos_right (Pm.W rs 0 k) p1; omega
  · have := Nat.le_mul_of_pos_left (Pm.W rs 1 k) p0; omega
theorem RdsOk.A_lt {rs : List (List Cut)} (h : RdsOk rs) (ax k g : Nat) : A rs ax k g < Pm.W rs ax k := by
  have := al_lt (r := (Pm.rnd rs k).reverse) (fun c hc => h.cut k c (List.mem_reverse.mp hc)) g ax
  rw [wid_rev] at this
  exact this
theorem RdsOk.cnt_pos {rs : List (List Cut)} (h : RdsOk rs) (ax k : Nat) : 0 < cnt rs ax k := by
  induction k with
  | zero => exact Nat.one_pos
  | succ k ih => exact Nat.mul_pos ih (h.W ax k)
theorem RdsOk.nm_lt {rs : List (List Cut)} (h : RdsOk rs) (ax : Nat) (f : Nat → Nat) (k : Nat) : nm rs ax f k < cnt rs ax k := by
  induction k with
  | zero => exact Nat.one_pos
  | succ k ih =>
    have a := h.A_lt ax k (f k)
    calc nm rs ax f k * Pm.W rs ax k + A rs ax k (f k) < nm rs ax f k * Pm.W rs ax k + Pm.W rs ax k := by omega
      _ = (nm rs ax f k + 1) * Pm.W rs ax k := by rw [Nat.add_mul, Nat.one_mul]
      _ ≤ cnt rs ax k * Pm.W rs ax k := Nat.mul_le_mul_right _ ih
/-- the number of a beginning -/
theorem RdsOk.begin {rs : List (List Cut)} (h : RdsOk rs) (ax : Nat) (f : Nat → Nat) (m j : Nat) : ∃ R rest, 0 < R ∧ rest < R ∧ cnt rs ax (m + j) = cnt rs ax m * R ∧ nm rs ax f (m + j) = nm rs ax f m * R + rest := by
  induction j with
  | zero => exact ⟨1, 0, Nat.one_pos, Nat.one_pos, by simp, by simp⟩
  | succ j ih =>
    obtain ⟨R, rest, hR, hr, e1, e2⟩ := ih
    have w := h.W ax (m + j)
    have a := h.A_lt ax (m + j) (f (m + j))
    refine ⟨R * Pm.W rs ax (m + j), rest * Pm.W rs ax (m + j) + A rs ax (m + j) (f (m + j)), Nat.mul_pos hR w, ?_, ?_, ?_⟩
    · calc rest * Pm.W rs ax (m + j) + A rs ax (m + j) (f (m + j)) < rest * Pm.W rs ax (m + j) + Pm.W rs ax (m + j) := by omega
        _ = (rest + 1) * Pm.W rs ax (m + j) := by rw [Nat.add_mul, Nat.one_mul]
        _ ≤ R * Pm.W rs ax (m + j) := Nat.mul_le_mul_right _ hr
    · show cnt rs ax (m + j) * Pm.W rs ax (m + j) = _
      rw [e1, Nat.mul_assoc]
    · show nm rs ax f (m + j) * Pm.W rs ax (m + j) + A rs ax (m + j) (f (m + j)) = _
      rw [e2, Nat.add_mul, Nat.mul_assoc, Nat.add_assoc]
theorem RdsOk.div {rs : List (List Cut)} (h : RdsOk rs) (ax : Nat) (f : Nat → Nat) {m n : Nat} (hmn : m ≤ n) : nm rs ax f n / (cnt rs ax n / cnt rs ax m) = nm rs ax f m := by
  obtain ⟨j, rfl⟩ := Nat.le.dest hmn
  obtain ⟨R, rest, hR, hr, e1, e2⟩ := h.begin ax f m j
  rw [e1, Nat.mul_div_cancel_left _ (h.cnt_pos ax m), e2, Nat.mul_comm, Nat.mul_add_div hR, Nat.div_eq_of_lt hr, Nat.add_zero]
theorem RdsOk.inj {rs : List (List Cut)} (h : RdsOk rs) {f g : Nat → Nat} {n : Nat} (hf : ∀ k, k < n → f k < Pm.S rs k) (hg : ∀ k, k < n → g k < Pm.S rs k) (h0 : nm rs 0 f n = nm rs 0 g n) (h1 : nm rs 1 f n = nm rs 1 g n) : ∀ k, k < n → f k = g k := by
  induction n with
  | zero => intro k hk; omega
  | succ n ih =>
    have sp : ∀ ax, nm rs ax f (n + 1) = nm rs ax g (n + 1) → nm rs ax f n = nm rs ax g n ∧ A rs ax n (f n) = A rs ax n (g n) := by
      intro ax e
      have w := h.W ax n
      have a1 := h.A_lt ax n (f n)
      have a2 := h.A_lt ax n (g n)
      have e' : nm rs ax f n * Pm.W rs ax n + A rs ax n (f n) = nm rs ax g n * Pm.W rs ax n + A rs ax n (g n) := e
      have q1 : (nm rs ax f n * Pm.W rs ax n + A rs ax n (f n)) / Pm.W rs ax n = nm rs ax f n := by
        rw [Nat.mul_comm, Nat.mul_add_div w, Nat.div_eq_of_lt a1, Nat.add_zero]
      have q2 : (nm rs ax g n * Pm.W rs ax n + A rs ax n (g n)) / Pm.W rs ax n = nm rs ax g n := by
        rw [Nat.mul_comm, Nat.mul_add_div w, Nat.div_eq_of_lt a2, Nat.add_zero]
      have q : nm rs ax f n = nm rs ax g n := by rw [← q1, ← q2, e']
      rw [q] at e'
      exact ⟨q, by omega⟩
    obtain ⟨n0, a0⟩ := sp 0 h0
    obtain ⟨n1, a1⟩ := sp 1 h1
    have rest := ih (fun k hk => hf k (by omega)) (fun k hk => hg k (by omega)) n0 n1
    intro k hk
    rcases Nat.lt_or_ge k n with hk' | hk'
    · exact rest k hk'
    · have : k = n := by omega
      subst this
      refine al_inj (r := (Pm.rnd rs k).reverse) (fun c hc => h.cut k c (List.mem_reverse.mp hc)) ?_ ?_ a0 a1
      · rw [size_rev]; exact hf k hk
      · rw [size_rev]; exact hg k hk
theorem nm_congr {rs : List (List Cut)} {ax : Nat} {f g : Nat → Nat} {n : Nat} (h : ∀ k, k < n → f k = g k) : nm rs ax f n = nm rs ax g n := by
  induction n with
  | zero => rfl
  | succ n ih => simp only [nm]; rw [ih fun k hk => h k (by omega), h n (by omega)]
/-! all rounds once -/
theorem tot_perm {rs qs : List (List Cut)} (h : rs.Perm qs) (ax : Nat) : tot rs ax = tot qs ax := by
  unfold tot
  induction h with
  | nil => rfl
  | cons c _ ih => simp only [List.map_cons, List.foldr_cons, ih]
  | swap c d l => simp only [List.map_cons, List.foldr_cons]; rw [Nat.mul_left_comm]
  | trans _ _ i1 i2 => exact i1.trans i2
theorem cnt_take {rs : List (List Cut)} (ax : Nat) : ∀ k, k ≤ rs.length → cnt rs ax k = tot (rs.take k) ax := by
  intro k
  induction k with
  | zero => intro _; simp [cnt, tot]
  | succ k ih =>
    intro hk
    have e := ih (by omega)
    have hlt : k < rs.length := by omega
    have er : rnd rs k = rs[k] := by
      unfold rnd
      rw [Nat.mod_eq_of_lt hlt, List.getD_eq_getElem?_getD, List.getElem?_eq_getElem hlt]
      rfl
    have app : ∀ (xs : List (List Cut)) (y : List Cut), tot (xs ++ [y]) ax = tot xs ax * wid y ax := by
      intro xs y
      induction xs with
      | nil => simp [tot]
      | cons x xs ih => simp only [tot, List.cons_append, List.map_cons, List.foldr_cons] at *; rw [ih, Nat.mul_assoc]
    show cnt rs ax k * W rs ax k = _
    rw [e, List.take_succ_eq_append_getElem hlt, app]
    unfold W
    rw [er]
theorem cnt_all (rs : List (List Cut)) (ax : Nat) : cnt rs ax rs.length = tot rs ax := by
  rw [cnt_take ax _ (Nat.le_refl _), List.take_length]
theorem RdsOk.bal {rs : List (List Cut)} (h : RdsOk rs) : cnt rs 0 rs.length = cnt rs 1 rs.length := by
  rw [cnt_all, cnt_all]; exact h.2.2.2
theorem RdsOk.perm {rs qs : List (List Cut)} (h : RdsOk rs) (p : rs.Perm qs) : RdsOk qs :=
  ⟨p.length_eq ▸ h.1, p.length_eq ▸ h.2.1, fun r hr => h.2.2.1 r (p.mem_iff.mpr hr), by rw [← tot_perm p, ← tot_perm p]; exact h.2.2.2⟩
theorem RndOk.perm {r q : List Cut} (h : RndOk r) (p : r.Perm q) : RndOk q :=
  ⟨p.length_eq ▸ h.1, p.length_eq ▸ h.2.1, fun c hc => h.2.2.1 c (p.mem_iff.mpr hc), by rw [← size_perm p]; exact h.2.2.2⟩
end Pm
set_option Elab.async false
set_option maxRecDepth 100000
set_option maxHeartbeats 4000000
namespace Mv
open PySem PySem.Spec PyProof.Rows L2
theorem tyL {K : PySem.W.Frag} {H : Hp} {a : Addr} {xs : List V} (h : SqL K H a xs) : TyX K H (.ref a) (.type "list") := by
  rcases h with (h | ⟨o, h⟩) | ⟨o, its, n, hk, hc, _⟩
  · exact .base (.lst h)
  · exact .base (.frz h)
  · exact .kList hk hc
theorem tyT {K : PySem.W.Frag} {H : Hp} {a : Addr} {xs : List V} (h : SqT K H a xs) : TyX K H (.ref a) (.type "tuple") := by
  rcases h with (h | ⟨o, h⟩) | ⟨o, its, n, hk, hc, _⟩
  · exact .base (.tup h)
  · exact .fTuple h
  · exact .kTuple hk hc
theorem sqK_or {b : Bool} {K : PySem.W.Frag} {H : Hp} {a : Addr} {xs : List V} (h : SqK b K H a xs) : SqL K H a xs ∨ SqT K H a xs := by
  cases b
  · exact .inr h
  · exact .inl h
theorem tyK {b : Bool} {K : PySem.W.Frag} {H : Hp} {a : Addr} {xs : List V} (h : SqK b K H a xs) : TyX K H (.ref a) (.type (if b then "list" else "tuple")) := by
  cases b
  · exact tyT h
  · exact tyL h
/-- the built-ins are still their own -/
structure Blt (mg : Str → Option Value) : Prop where
  len : mg "len" = none
  abs : mg "abs" = none
  max : mg "max" = none
  min : mg "min" = none
  int : mg "int" = none
  bool : mg "bool" = none
  str : mg "str" = none
  repr : mg "repr" = none
  all : mg "all" = none
  any : mg "any" = none
  range : mg "range" = none
  divmod : mg "divmod" = none
  isinstance : mg "isinstance" = none
  list : mg "list" = none
  tuple : mg "tuple" = none
  dict : mg "dict" = none
  enumerate : mg "enumerate" = none
  zip : mg "zip" = none
  sorted : mg "sorted" = none
  sum : mg "sum" = none
  type : mg "type" = none
/-- a class of the text whose instances are plain -/
structure ClsI (K : PySem.W.Frag) (C : Addr) : Prop where
  cl : Cls K C
  ha : PySem.W.findIn K (.ref C) "__class__" = some (some (.builtin "object.__class__"))
  hn : PySem.W.specialIn K (.builtin "object.__class__") "__get__" = some (some (.builtin "getset_descriptor.__get__"))
  htk : PySem.W.takesIn K (.builtin "object.__class__") = some true
  hm : PySem.W.mroIn K C (.type "object") = some true
  me : PySem.W.kitOne K (.ref C) (.ref C) = some true
  ne : PySem.W.findIn K (.ref C) "__ne__" = some (some (.builtin "object.__ne__"))
theorem ClsI.ty {K : PySem.W.Frag} {C : Addr} (R : ClsI K C) {H : Hp} {a dx : Addr} {fs : List (Str × V)} (e : H a = some (.ins C dx fs)) : TyX K H (.ref a) (.ref C) := .base (.ins e R.cl R.ha R.hn R.htk R.hm)
theorem ClsI.nf {K : PySem.W.Frag} {C : Addr} (_ : ClsI K C) : PySem.W.notFirst K C (.ref C) = true := by unfold PySem.W.notFirst; simp
/-- attributes of a class itself -/
structure ClsR (K : PySem.W.Frag) (C : Addr) : Prop where
  ex : ∃ mc, ClX.CRead K C mc
/-- the constant C.f -/
structure CCon (K : PySem.W.Frag) (C : Addr) (f : Str) (v : V) : Prop where
  ex : ∃ mc u, ClX.CRead K C mc ∧ ClX.CVal K C mc f v u
/-- x.f, x the name of the class at C -/
theorem pe_ccon {X : Cx} {C : Addr} {x f : Str} {v : V} {p pos : Pos} (c : CCon X.K C f v) (hg : Gl X x) (hm : X.mg x = some (.ref C)) (hd : (x == ("__debug__" : Str)) = false := by decide)
    (hb : attributeBase (.Name x p) f X.env (eval (.Name x p) X.env) = eval (.Name x p) X.env := by rfl) : PE X (.Attribute (.Name x p) f pos) (tC v) := by
  obtain ⟨mc, u, r, k⟩ := c.ex
  exact ⟨fun pins s σ H Q I h => (ClX.pe_cval (pe_glob (v := .ref C) hg hm rfl hd) hb).run pins s σ H Q I ⟨C, mc, v, u, rfl, r, k, h⟩⟩
end Mv
namespace Mv
open PySem PySem.Spec PyProof.Rows L2
section
variable {X : Cx} {x : Str} {pos : Pos}
theorem pe_globS {z : Str} (h : ∃ t, X.mg x = some (.str z t)) (hg : Gl X x) (hd : (x == ("__debug__" : Str)) = false := by decide) : PE X (.Name x pos) (tC (.str z)) := by
  obtain ⟨t, h⟩ := h
  exact pe_glob hg h ⟨_, rfl⟩ hd
theorem pe_globI {i : Int} (h : ∃ t, X.mg x = some (.int i t)) (hg : Gl X x) (hd : (x == ("__debug__" : Str)) = false := by decide) : PE X (.Name x pos) (tC (.int i)) := by
  obtain ⟨t, h⟩ := h
  exact pe_glob hg h ⟨_, rfl⟩ hd
end
/-- no more arguments -/
theorem tnil {σ : L2.St} {H : Hp} {P : List V → Hp → Prop} (h : P [] H) : tNil σ H P := h
/-- a value that is no integer -/
def NotInt (K : PySem.W.Frag) (H : Hp) (v : V) : Prop := ∃ (t : Value) (b c : Bool), TyX K H v t ∧ PySem.W.kitOne K t (.type "int") = some b ∧ PySem.W.kitOne K t (.type "bool") = some c ∧ (b && !c) = false
/-- what stands in the module of plans -/
structure PlG (K : PySem.W.Frag) (mg : Str → Option Value) (C AX : Addr) : Prop where
  I : ClsI K C
  mgC : mg "Plan" = some (.ref C)
  nR : NoAttr K C "own_rounds"
  nP : NoAttr K C "own_parts"
  nG : NoAttr K C "own_growth"
  east : ∃ t, mg "EAST" = some (.str "east" t)
  north : ∃ t, mg "NORTH" = some (.str "north" t)
  axes : mg "AXES" = some (.ref AX)
  axt : ∀ H : Hp, SqT K H AX [.str "east", .str "north"]
  axk : ∃ o, K.lookup AX = some o ∧ o.cls = .type "tuple" ∧ o.dict = none
  few : ∃ t, mg "FEWEST_PARTS" = some (.int 2 t)
  most : ∃ t, mg "MOST_PARTS" = some (.int 4 t)
  fine : ∃ t, mg "MOST_FINE" = some (.int 1000 t)
  mr : CCon K C "MOST_ROUNDS" (.int 3)
  mc : CCon K C "MOST_CUTS" (.int 5)
  ms : CCon K C "MOST_SIGNS" (.int 32)
/-! the data of plans -/
def axn (a : Nat) : Str := if a = 0 then "east" else "north"
/-- a cut of the program; a cut of a law -/
def pCut (c : Pm.Cut) : PyData := .tuple [.str (axn c.1), .int c.2]
def lCut (c : Pm.Cut) : PyData := .tuple [.int c.1, .int c.2]
theorem axn_eq {a b : Nat} (ha : a < 2) (hb : b < 2) : decide (V.str (axn a) = V.str (axn b)) = decide (a = b) := by
  have h1 : a = 0 ∨ a = 1 := by omega
  have h2 : b = 0 ∨ b = 1 := by omega
  rcases h1 with rfl | rfl <;> rcases h2 with rfl | rfl <;> decide
end Mv
namespace Mv
open PySem PySem.Spec PyProof.Rows L2
section
variable {X : Cx} {K : PySem.W.Frag}
def rListOf (K : PySem.W.Frag) : List V → Hp → VK → Prop := fun xs H Q => ∃ p ys, xs = [.ref p] ∧ (SqL K H p ys ∨ SqT K H p ys) ∧ ∀ l, H l = none → Q (.ref l) (upd H l (.lst ys))
theorem call_list_of' (e : X.K = K := by (conv => lhs; whnf)) : CallR X (.type "list") (rListOf K) := by
  subst e
  exact call_list_of
def rTupOf (K : PySem.W.Frag) : List V → Hp → VK → Prop := fun xs H Q => ∃ p ys, xs = [.ref p] ∧ ((SqL K H p ys ∧ ∀ l, H l = none → Q (.ref l) (upd H l (.tup ys))) ∨ (SqT K H p ys ∧ Q (.ref p) H))
theorem call_tuple_of' (e : X.K = K := by (conv => lhs; whnf)) : CallR X (.type "tuple") (rTupOf K) := by
  subst e
  exact call_tuple_of
def rLenSeq (K : PySem.W.Frag) : List V → Hp → VK → Prop := fun xs H Q => ∃ p ys, xs = [.ref p] ∧ (SqL K H p ys ∨ SqT K H p ys) ∧ Q (.int ys.length) H
theorem call_len_seq' (e : X.K = K := by (conv => lhs; whnf)) : CallR X (.builtin "len") (rLenSeq K) := by
  subst e
  exact call_len_seq
theorem ix_list' (e : X.K = K := by (conv => lhs; whnf)) : IxR X (rIxL K) := by
  subst e
  exact ix_list
theorem ix_tup' (e : X.K = K := by (conv => lhs; whnf)) : IxR X (rIxT K) := by
  subst e
  exact ix_tup
theorem op_eqD' (hu : X.A.units + 64 < cLine) (e : X.K = K := by (conv => lhs; whnf)) : OpR X (compareOp .Eq) (rEqD K) := by
  subst e
  exact op_eqD hu
theorem op_neD' (hu : X.A.units + 64 < cLine) (e : X.K = K := by (conv => lhs; whnf)) : OpR X (compareOp .NotEq) (rNeD K) := by
  subst e
  exact op_neD hu
end
end Mv
namespace Mv
open PySem PySem.Spec PyProof.Rows L2
theorem pg_tup' {X : Cx} {K : PySem.W.Frag} {es : List Expr} {k : Nat} {t : TGs} {pos : Pos} (n : Nat) (h : PGs X es t) (e : X.K = K := by (conv => lhs; whnf)) (hc : X.calm = true := by rfl)
    (hn : (assignEach es X.env).length = n := by rfl) (hst : (assignEach es X.env).findIdx? (·.1) = none := by rfl) : PG X (.Tuple es k pos) (gTup K n t) := by
  subst e
  exact pg_tup hc h hn hst
theorem sl_tupA' {X : Cx} {K : PySem.W.Frag} (e : X.K = K := by (conv => lhs; whnf)) : SlR X (rSlA K) := by
  subst e
  exact sl_tupA
end Mv
namespace Mv
open PySem PySem.Spec PyProof.Rows L2
section
variable {X : Cx} {K : PySem.W.Frag} {tg l : Expr} {tl : TE}
theorem pi_list' (hl : PE X l tl) (e : X.K = K := by (conv => lhs; whnf)) : PI X tg l (iList K tl) := by
  subst e
  exact pi_list hl
theorem pi_tup' (hl : PE X l tl) (e : X.K = K := by (conv => lhs; whnf)) : PI X tg l (iTup K tl) := by
  subst e
  exact pi_tup hl
theorem pi_seq' (hl : PE X l tl) (e : X.K = K := by (conv => lhs; whnf)) : PI X tg l (iSeq K tl) := by
  subst e
  exact pi_seq hl
end
end Mv
set_option Elab.async false
set_option maxRecDepth 100000
set_option maxHeartbeats 4000000
namespace T
open PySem L2 Mv
def top (i : Nat) : Stmt := PySem.Challenge.pw_movecells_k18_errors_made.main.body.getD i (.Pass ⟨0, 0, 0, 0⟩)









section
variable {P : Program} {w : World} {K : PySem.W.Frag} {mg : Str → Option Value} {base : Heap} {C AX : Addr}
/-! is_integer -/
def sp_isint (K : PySem.W.Frag) : Sp := fun vs H Q _ => ∃ (v : V) (t : Value) (b c : Bool), vs = [v] ∧ TyX K H v t ∧ PySem.W.kitOne K t (.type "int") = some b ∧ PySem.W.kitOne K t (.type "bool") = some c ∧ Q (.bl (b && !c)) H
theorem c_isint {K : PySem.W.Frag} {v : V} {t : Value} {b c : Bool} {H : Hp} {Q : VK} {E : XK} (h0 : TyX K H v t) (h1 : PySem.W.kitOne K t (.type "int") = some b) (h2 : PySem.W.kitOne K t (.type "bool") = some c) (q : Q (.bl (b && !c)) H) : sp_isint K [v] H Q E := ⟨_, _, _, _, rfl, h0, h1, h2, q⟩
theorem isint_int {H : Hp} {i : Int} {Q : VK} (q : Q (.bl true) H) : sp_isint K [.int i] H Q E0 := ⟨_, .type "int", true, false, rfl, .base (.int i), kit_ty (by decide +kernel), kit_ty (by decide +kernel), q⟩
theorem isint_not {H : Hp} {v : V} {Q : VK} (h : NotInt K H v) (q : Q (.bl false) H) : sp_isint K [v] H Q E0 := by
  obtain ⟨t, b, c, ty, h1, h2, h3⟩ := h
  exact ⟨v, t, b, c, rfl, ty, h1, h2, h3 ▸ q⟩
/-! is_count -/
def sp_count (K : PySem.W.Frag) : Sp := fun vs H Q _ => ∃ (v : V), vs = [v] ∧ ((∃ i, v = .int i ∧ Q (.bl (decide (0 ≤ i))) H) ∨ (NotInt K H v ∧ Q (.bl false) H))
theorem c_count {K : PySem.W.Frag} {v : V} {H : Hp} {Q : VK} {E : XK}  (q : ((∃ i, v = .int i ∧ Q (.bl (decide (0 ≤ i))) H) ∨ (NotInt K H v ∧ Q (.bl false) H))) : sp_count K [v] H Q E := ⟨_, rfl, q⟩
theorem count_int {H : Hp} {i : Int} {Q : VK} (h : 0 ≤ i) (q : Q (.bl true) H) : sp_count K [.int i] H Q E0 := ⟨_, rfl, .inl ⟨i, rfl, by rw [decide_eq_true h]; exact q⟩⟩
/-! is_list -/
def sp_islist (K : PySem.W.Frag) : Sp := fun vs H Q _ => ∃ (v : V) (t : Value) (b c : Bool), vs = [v] ∧ TyX K H v t ∧ PySem.W.kitOne K t (.type "list") = some b ∧ PySem.W.kitOne K t (.type "tuple") = some c ∧ ∀ H', Same H H' → Q (.bl (b || c)) H'
theorem c_islist {K : PySem.W.Frag} {v : V} {t : Value} {b c : Bool} {H : Hp} {Q : VK} {E : XK} (h0 : TyX K H v t) (h1 : PySem.W.kitOne K t (.type "list") = some b) (h2 : PySem.W.kitOne K t (.type "tuple") = some c) (q : ∀ H', Same H H' → Q (.bl (b || c)) H') : sp_islist K [v] H Q E := ⟨_, _, _, _, rfl, h0, h1, h2, q⟩
theorem TyX.same {H H' : Hp} {v : V} {t : Value} (h : TyX K H v t) (s : Same H H') : TyX K H' v t := by
  cases h with
  | base h =>
    cases h with
    | non => exact .base .non
    | bl x => exact .base (.bl x)
    | int x => exact .base (.int x)
    | str x => exact .base (.str x)
    | flt x => exact .base (.flt x)
    | lst e => exact .base (.lst (s _ _ e))
    | frz e => exact .base (.frz (s _ _ e))
    | tup e => exact .base (.tup (s _ _ e))
    | dK e => exact .base (.dK (s _ _ e))
    | dT e => exact .base (.dT (s _ _ e))
    | ins e cl ha hn htk hm => exact .base (.ins (s _ _ e) cl ha hn htk hm)
  | byt b => exact .byt b
  | set e => exact .set (s _ _ e)
  | kList e c => exact .kList e c
  | kTuple e c => exact .kTuple e c
  | kDict e c => exact .kDict e c
  | fTuple e => exact .fTuple (s _ _ e)
  | fDict e => exact .fDict (s _ _ e)
theorem islist_seq {H : Hp} {b : Bool} {a : Addr} {xs : List V} {Q : VK} (h : SqK b K H a xs) (q : ∀ H', Same H H' → Q (.bl true) H') : sp_islist K [.ref a] H Q E0 := by
  cases b
  · exact ⟨_, _, false, true, rfl, tyT h, kit_ty (by decide +kernel), kit_ty (by decide +kernel), q⟩
  · exact ⟨_, _, true, false, rfl, tyL h, kit_ty (by decide +kernel), kit_ty (by decide +kernel), q⟩
/-! is_axis, are_parts, is_cut -/
def sp_isaxis : Sp := fun vs H Q _ => ∃ a : Nat, vs = [.str (axn a)] ∧ Q (.bl true) H
def sp_areparts : Sp := fun vs H Q _ => ∃ i : Int, vs = [.int i] ∧ 2 ≤ i ∧ i ≤ 4 ∧ Q (.bl true) H
def sp_iscut (K : PySem.W.Frag) : Sp := fun vs H Q _ => ∃ (v : V) (c : Pm.Cut), vs = [v] ∧ Dp K H v (pCut c) ∧ Pm.CutOk c ∧ Q (.bl true) H
theorem c_iscut {K : PySem.W.Frag} {v : V} {c : Pm.Cut} {H : Hp} {Q : VK} {E : XK} (h0 : Dp K H v (pCut c)) (h1 : Pm.CutOk c) (q : Q (.bl true) H) : sp_iscut K [v] H Q E := ⟨_, _, rfl, h0, h1, q⟩
theorem cut_at {H : Hp} {v : V} {c : Pm.Cut} (h : Dp K H v (pCut c)) : ∃ a, v = .ref a ∧ SqT K H a [.str (axn c.1), .int c.2] := by
  obtain ⟨a, xs, rfl, hs, ha⟩ := h.tupE
  cases ha with
  | cons h1 h2 =>
    cases h2 with
    | cons h2 h3 =>
      cases h3
      rw [h1.strE, h2.intE] at hs
      exact ⟨a, rfl, hs⟩
/-! is_round -/
def sp_isround (K : PySem.W.Frag) : Sp := fun vs H Q _ => ∃ (v : V) (b : Bool) (r : List Pm.Cut), vs = [v] ∧ Dp K H v (dSeq b (r.map pCut)) ∧ Pm.RndOk r ∧ ∀ H', Same H H' → Q (.bl true) H'
theorem c_isround {K : PySem.W.Frag} {v : V} {b : Bool} {r : List Pm.Cut} {H : Hp} {Q : VK} {E : XK} (h0 : Dp K H v (dSeq b (r.map pCut))) (h1 : Pm.RndOk r) (q : ∀ H', Same H H' → Q (.bl true) H') : sp_isround K [v] H Q E := ⟨_, _, _, rfl, h0, h1, q⟩
/-! parts_along -/
def sp_along1 (K : PySem.W.Frag) : Sp := fun vs H Q _ => ∃ (v : V) (b : Bool) (r : List Pm.Cut) (ax : Nat), vs = [v, .str (axn ax)] ∧ ax < 2 ∧ Dp K H v (dSeq b (r.map pCut)) ∧ Pm.RndOk r ∧ Q (.int (Pm.wid r ax)) H
theorem c_along1 {K : PySem.W.Frag} {v : V} {b : Bool} {r : List Pm.Cut} {ax : Nat} {H : Hp} {Q : VK} {E : XK} (h0 : ax < 2) (h1 : Dp K H v (dSeq b (r.map pCut))) (h2 : Pm.RndOk r) (q : Q (.int (Pm.wid r ax)) H) : sp_along1 K [v, .str (axn ax)] H Q E := ⟨_, _, _, _, rfl, h0, h1, h2, q⟩
theorem wid_take {r : List Pm.Cut} {i : Nat} {c : Pm.Cut} (h : r[i]? = some c) (ax : Nat) : Pm.wid (r.take (i + 1)) ax = Pm.wid (r.take i) ax * (if c.1 = ax then c.2 else 1) := by
  rw [List.take_add_one, h]
  simp only [Option.toList]
  rw [Pm.wid_app]
  simp [Pm.wid]
theorem wid_le {r : List Pm.Cut} (h : Pm.RndOk r) (i ax : Nat) (hax : ax < 2) : Pm.wid (r.take i) ax ≤ 32 := by
  have hc := h.2.2.1
  have e := Pm.wid_app (r.take i) (r.drop i) ax
  rw [List.take_append_drop] at e
  have p := Pm.wid_pos (r := r.drop i) (fun c hc' => hc c (List.mem_of_mem_drop hc')) ax
  have l1 : Pm.wid (r.take i) ax ≤ Pm.wid r ax := by rw [e]; exact Nat.le_mul_of_pos_right _ p
  have es := Pm.size_wid hc
  have s := h.2.2.2
  have p0 := Pm.wid_pos hc 0
  have p1 := Pm.wid_pos hc 1
  have h01 : ax = 0 ∨ ax = 1 := by omega
  rcases h01 with rfl | rfl
  · have := Nat.le_mul_of_pos_right (Pm.wid r 0) p1; omega
  · have := Nat.le_mul_of_pos_left (Pm.wid r 1) p0; omega
end
end T
set_option Elab.async false
set_option maxRecDepth 100000
set_option maxHeartbeats 4000000
namespace L2
open PySem PySem.Spec PyProof.Rows Mv
section
variable {K : PySem.W.Frag}
/-- lists of data without lists, none of them at D -/
inductive LAll (K : PySem.W.Frag) (H : Hp) (D : Addr) : List V → List (List PyData) → Prop
  | nil : LAll K H D [] []
  | cons {q : Addr} {zs ys : List V} {e : List PyData} {es : List (List PyData)} (n : q ≠ D) (h : H q = some (.lst zs)) (ha : DpAll K H zs e) (r : LAll K H D ys es) : LAll K H D (.ref q :: ys) (e :: es)
theorem LAll.app {H : Hp} {D : Addr} : ∀ {xs ys : List V} {es fs : List (List PyData)}, LAll K H D xs es → LAll K H D ys fs → LAll K H D (xs ++ ys) (es ++ fs)
  | _, _, _, _, .nil, h => h
  | _, _, _, _, .cons n h ha r, g => .cons n h ha (LAll.app r g)
theorem LAll.len {H : Hp} {D : Addr} : ∀ {xs : List V} {es : List (List PyData)}, LAll K H D xs es → xs.length = es.length
  | _, _, .nil => rfl
  | _, _, .cons _ _ _ r => by rw [List.length_cons, List.length_cons, LAll.len r]
theorem LAll.bu {H H' : Hp} {D : Addr} {ws : List V} (b : Bu D H H') (hD : H D = some (.lst ws)) : ∀ {xs : List V} {es : List (List PyData)}, (∀ e ∈ es, NLs e = true) → LAll K H D xs es → LAll K H' D xs es
  | _, _, _, .nil => .nil
  | _, _, nl, .cons n h ha r => .cons n (b _ _ n h) (ha.bu (nl _ (List.mem_cons_self ..)) b hD) (LAll.bu b hD (fun e he => nl e (List.mem_cons_of_mem _ he)) r)
theorem LAll.dp {H : Hp} {D : Addr} : ∀ {xs : List V} {es : List (List PyData)}, LAll K H D xs es → DpAll K H xs (es.map PyData.list)
  | _, _, .nil => .nil
  | _, _, .cons _ h ha r => .cons (.lst (SqL.of h) ha) (LAll.dp r)
/-- a comprehension whose items are new lists of data without lists -/
theorem lc_ll {J : It} {n : Nat} {G : Hp → Prop} {Y : Nat → Hp → V → Hp → Prop} (w : Walk J n G Y) {g : TG} {te : TE} {vs : List Nat} {σ : L2.St} {H1 : Hp} {D : Addr} {Qd : Hp → Prop} (es : List (List PyData)) (hn : es.length = n) (hz : n ≤ 100000) (hl : ∀ e ∈ es, NLs e = true) (hD : H1 D = none)
    (hG : ∀ H, Same H1 H → G H)
    (hs : ∀ (i : Nat) (e : List PyData) (x : V) (H H' : Hp) (Q : VK), i < n → es[i]? = some e → Same H1 H → Y i H x H' → (∀ q zs H4, Same H H4 → H q = none → H4 q = some (.lst zs) → DpAll K H4 zs e → Q (.ref q) H4) →
      g x (wipe σ vs) H' fun σ2 H2 => wipe σ2 vs = wipe σ vs ∧ te σ2 H2 Q)
    (hd : ∀ H ys, Same H1 H → H D = some (.lst ys) → DpAll K H ys (es.map PyData.list) → Qd H) (hg : ∀ x σ' H' (P Q : L2.St → Hp → Prop), (∀ σ2 H2, P σ2 H2 → Q σ2 H2) → g x σ' H' P → g x σ' H' Q) :
    ∃ W : Nat → Nat → Hp → Prop, (∃ m, W 0 m (upd H1 D (.lst []))) ∧ ∀ i m H, W i m H →
      (J.stop i H ∧ Qd H) ∨ (J.go i H ∧ ∃ Nx : Hp → Prop, (∀ H', Nx H' → ∃ m', m' < m ∧ W (i + 1) m' H') ∧ ∀ x H', J.yld i H x H' → g x (wipe σ vs) H' fun σ2 H2 => wipe σ2 vs = wipe σ vs ∧ tYes σ2 H2 fun b H3 =>
        if b = true then te σ2 H3 fun y H4 => ∃ acc, H4 D = some (.lst acc) ∧ acc.length < sizeLine ∧ Nx (upd H4 D (.lst (acc ++ [y]))) else Nx H3) := by
  refine lc_it w (fun i H => Same H1 H ∧ ∃ ys, H D = some (.lst ys) ∧ LAll K H D ys (es.take i)) ⟨same_new hD, [], upd_same, by simp; exact .nil⟩ (fun i H _ h => hG H h.1) ?_ ?_
  · rintro i x H H' hi ⟨s, ys, ed, ha⟩ hy
    have he : es[i]? = some es[i] := List.getElem?_eq_getElem (by omega)
    refine hg x _ H' _ _ (fun σ2 H2 h => ⟨h.1, h.2⟩) (hs i es[i] x H H' (fun y H4 => ∃ acc, H4 D = some (.lst acc) ∧ acc.length < sizeLine ∧ Same H1 (upd H4 D (.lst (acc ++ [y]))) ∧ ∃ ys, upd H4 D (.lst (acc ++ [y])) D = some (.lst ys) ∧ LAll K (upd H4 D (.lst (acc ++ [y]))) D ys (es.take (i + 1))) hi he s hy fun q zs H4 s4 hq eq dz => ?_)
    have e4 := s4 _ _ ed
    have hlen := ha.len
    have hqD : q ≠ D := fun z => by rw [z, ed] at hq; cases hq
    refine ⟨ys, e4, ?_, same_over (s.trans s4) hD, ys ++ [.ref q], upd_same, ?_⟩
    · rw [hlen, List.length_take]; unfold sizeLine; omega
    · rw [List.take_add_one, he]
      have b1 : Bu D H (upd H4 D (.lst (ys ++ [.ref q]))) := (Bu.of s4 D).trans Bu.set
      have b2 : Bu D H4 (upd H4 D (.lst (ys ++ [.ref q]))) := Bu.set
      exact (ha.bu b1 ed (fun e he => hl e (List.mem_of_mem_take he))).app (.cons hqD (b2 _ _ hqD eq) (dz.bu (hl _ (List.getElem_mem _)) b2 e4) .nil)
  · rintro H ⟨s, ys, ed, ha⟩
    refine hd H ys s ed ?_
    rw [← hn, List.take_length] at ha
    exact ha.dp
theorem NLs.map {α : Type} (f : α → PyData) (h : ∀ x, NL (f x) = true) (xs : List α) : NLs (xs.map f) = true := NLs.of fun d hd => by
  obtain ⟨x, _, rfl⟩ := List.mem_map.mp hd
  exact h x
theorem NL.pCut (c : Pm.Cut) : NL (Mv.pCut c) = true := rfl
theorem NL.lCut (c : Pm.Cut) : NL (Mv.lCut c) = true := rfl
end
end L2
namespace Mv
open PySem PySem.Spec PyProof.Rows L2
section
variable {P : Program} {w : World} {K : PySem.W.Frag} {mg : Str → Option Value} {base : Heap}
theorem dfStar {x qual : Str} {st : Stmt} {f : Addr} {fd : FuncData} {N ps : List Str} {pv : Str} {k : Nat} {sp : Sp} (F : Df K x qual st [] f fd) (S : FnScope N (ps ++ [pv]) (defScope st))
    (hb : ∀ (kV doc pm : Value) (an : Option Addr) (cdv ct : Value) (us rest : List Value), us.length = ps.length → bindArgs (PySem.W.fnOf x qual (defArgs st) (defBody st) (defScope st) .none kV doc pm an cdv ct) ⟨us ++ rest, []⟩ = (newTuple rest >>= fun t => pure (ps.zip us ++ [(pv, t)])))
    (hbody : ∀ (cdv : Value) (A : Around) (outer : List Env) (s : Shared) (H : Hp) (vs : List V) (Q : VK) (E : XK), Room k (A.deeper (envOfC qual (defScope st) s.heap.objs.size f cdv)) → sp vs H Q E →
      ∃ t, PSs (cxOf CX0 P w K mg base N qual (defScope st) f cdv A outer s H E).nox (defBody st) t ∧ t { nx := fun _ H' => Q .non H', rt := Q } (start N vs) H) :
    FnR P w K mg base CX0 (k + 1) f (fun vs H Q E => ∃ ws rest, vs = ws ++ rest ∧ ws.length = ps.length ∧ rest.length ≤ sizeLine ∧ ∀ p, H p = Option.none → sp (ws ++ [V.ref p]) (upd H p (.tup rest)) Q E) := by
  obtain ⟨oc, od, dV, kV, doc, pm, an, cdv, ct, osl, rfl, lk, hcd, hd, _⟩ := F.ex
  rcases hd with ⟨_, e⟩ | ⟨e, _⟩
  · subst e
    refine StX.fn_star lk hcd S StX.cxUp_none (hb kV doc pm an cdv ct) fun A outer s H vs Q E hr hsp => ?_
    obtain ⟨t, h, q⟩ := hbody cdv A outer s H vs Q E hr hsp
    exact ⟨t, h.nox, q⟩
  · exact absurd rfl e
end
/-- a class made by positional arguments, any number of them -/
structure MaR (P : Program) (w : World) (K : PySem.W.Frag) (mg : Str → Option Value) (base : Heap) (k : Nat) (x : Str) (C : Addr) (sp : Sp) : Prop where
  ex : ∃ (f : Addr), Mk K C f ∧ FnR P w K mg base CX0 k f sp ∧ mg x = some (.ref C)
section
variable {X : Cx} {k j : Nat} {C : Addr} {x : Str} {sp : Sp} {p pos : Pos} {e : Expr} {es : List Expr} {t : TA}
theorem pe_mar (c : MaR X.prog X.w X.K X.mg X.base k x C sp) (hr : Room j X.A) (hk : k + 1 ≤ j) (hg : Gl X x) (ha : PA X (e :: es) t)
    (hdb : (x == ("__debug__" : Str)) = false := by decide) (he : starEach (e :: es) X.env = (false, eval e X.env) :: starEach es X.env := by rfl) (hpl : (backTo pos (starEach es X.env)).any (·.1) = false := by rfl) :
    PE X (.Call (.Name x p) (e :: es) [] pos) (StX.tMakeR C sp E0 t) := by
  obtain ⟨f, M, F, hm⟩ := c.ex
  exact StX.pe_makeR M F (hr.mono hk) hg hm pass0 ha hdb he hpl
end
end Mv
set_option Elab.async false
set_option maxRecDepth 100000
set_option maxHeartbeats 4000000
namespace Mv
open PySem PySem.Spec PyProof.Rows L2
/-- a pot: two counts -/
structure Pot (H : Hp) (p : Addr) : Prop where
  ex : ∃ x y : Int, H p = some (.lst [.int x, .int y]) ∧ 0 ≤ x ∧ 0 ≤ y ∧ y < 2147483648
theorem Pot.new {H : Hp} {p q : Addr} {o : HO} (h : Pot H p) (hq : H q = none) : Pot (upd H q o) p := by
  obtain ⟨x, y, e, r⟩ := h.ex
  exact ⟨x, y, by rw [upd_ne (ne_of_none e hq)]; exact e, r⟩
theorem Pot.ne {H : Hp} {p q : Addr} (h : Pot H p) (hq : H q = none) : q ≠ p := by
  obtain ⟨x, y, e, _⟩ := h.ex
  exact (ne_of_none e hq).symm
theorem Pot.same {H H' : Hp} {p : Addr} (h : Pot H p) (s : Same H H') : Pot H' p := by
  obtain ⟨x, y, e, r⟩ := h.ex
  exact ⟨x, y, s _ _ e, r⟩
theorem Pot.lst {H : Hp} {p : Addr} (h : Pot H p) : ∃ ys, H p = some (.lst ys) := by
  obtain ⟨x, y, e, _⟩ := h.ex
  exact ⟨_, e⟩
theorem _root_.L2.Bu.free {p q : Addr} {H H' : Hp} (b : Bu p H H') (hp : q ≠ p) (h : H' q = none) : H q = none := by
  cases e : H q with
  | none => rfl
  | some o => rw [b q o hp e] at h; cases h
theorem _root_.L2.Bu.seqL {K : PySem.W.Frag} {p l : Addr} {H H' : Hp} {xs : List V} (b : Bu p H H') (hl : l ≠ p) (h : SqL K H l xs) : SqL K H' l xs := by
  rcases h with (h | ⟨o, h⟩) | h
  · exact .inl (.inl (b _ _ hl h))
  · exact .inl (.inr ⟨o, b _ _ hl h⟩)
  · exact .inr h
theorem small_pow {n : Nat} (h : n ≤ 1000) : n < 2 ^ 8000 := Nat.lt_of_le_of_lt h (Nat.lt_of_lt_of_le (by decide : 1000 < 2 ^ 10) (Nat.pow_le_pow_right (by decide) (by decide)))
theorem log_small {n : Nat} (h : n ≤ 1000000000000000000) : n.log2 < 9000 := by
  rcases Nat.eq_zero_or_pos n with z | z
  · subst z; decide
  · exact (Nat.log2_lt (by omega)).mpr (Nat.lt_of_le_of_lt h (Nat.lt_of_lt_of_le (by decide : 1000000000000000000 < 2 ^ 60) (Nat.pow_le_pow_right (by decide) (by decide))))
/-! the promises of pot, draw and pick -/
def sp_pot (K : PySem.W.Frag) : Sp := fun vs H Q _ => ∃ (a : Addr) (ns : List Int) (k : Nat), vs = [.ref a, .int k] ∧ SqL K H a (ns.map V.int) ∧ k < 100 ∧
  ∀ p, H p = none → ∀ x y : Int, 0 ≤ x → 0 ≤ y → y < 2147483648 → Q (.ref p) (upd H p (.lst [.int x, .int y]))
/-- a draw below n -/
def sp_draw : Sp := fun vs H Q _ => ∃ (p : Addr) (n : Int), vs = [.ref p, .int n] ∧ Pot H p ∧ 0 < n ∧ n.natAbs ≤ 1000000000000000000 ∧ ∀ (d : Nat) (H' : Hp), (d : Int) < n → Pot H' p → Bu p H H' → Q (.int d) H'
def sp_pick (K : PySem.W.Frag) : Sp := fun vs H Q _ => ∃ (p l : Addr) (xs : List V), vs = [.ref p, .ref l] ∧ Pot H p ∧ l ≠ p ∧ SqL K H l xs ∧ xs ≠ [] ∧ xs.length ≤ 1000 ∧ ∀ (v : V) (H' : Hp), v ∈ xs → Pot H' p → Bu p H H' → Q v H'
end Mv
set_option Elab.async false
set_option maxRecDepth 100000
set_option maxHeartbeats 4000000
local macro_rules | `(tactic| walk_at "rd") => `(tactic| repeat (first
  | refine ⟨_, rfl, ?_⟩
  | refine ⟨_, _, rfl, rfl, ?_⟩
  | refine ⟨_, _, rfl, ?_⟩
  | refine Or.inl ⟨_, rfl, ?_⟩
  | refine ⟨.inl ⟨by decide, by decide⟩, ?_⟩
  | refine ⟨.inr ⟨by decide, by decide⟩, ?_⟩
  | refine ⟨(by decide : (0 : Int) < _), ?_⟩
  | refine ⟨⟨by decide, by decide, by decide⟩, ?_⟩))
namespace T
open PySem L2 Mv
abbrev s_pot : Stmt := top 48
theorem sc_pot : FnScope ["_law_script", "_law_k", "_law_figures"] ["_law_script", "_law_k"] (defScope s_pot) := ⟨rfl, rfl, rfl, by decide +kernel, rfl, by decide +kernel, by decide +kernel⟩
abbrev s_draw : Stmt := top 49
theorem sc_draw : FnScope ["_law_pot_here", "_law_size", "_law_digit"] ["_law_pot_here", "_law_size"] (defScope s_draw) := ⟨rfl, rfl, rfl, by decide +kernel, rfl, by decide +kernel, by decide +kernel⟩
abbrev s_pick : Stmt := top 50
theorem sc_pick : FnScope ["_law_pot_here", "_law_some"] ["_law_pot_here", "_law_some"] (defScope s_pick) := ⟨rfl, rfl, rfl, by decide +kernel, rfl, by decide +kernel, by decide +kernel⟩
section
variable {P : Program} {w : World} {K : PySem.W.Frag} {mg : Str → Option Value} {base : Heap} {C AX : Addr}
theorem ok_pot {f : Addr} {fd : FuncData} (F : Df K "_law_pot" "_law_pot" s_pot [] f fd) (B : Blt mg) : FnOk P w K mg base CX0 1 f fd ["_law_script", "_law_k"] (sp_pot K) := by
  refine dfOk F sc_pot (fun vs H Q E h => ?_) (fun cdv A outer s H vs Q E hr h => ?_)
  · obtain ⟨a, ns, k, rfl, _⟩ := h
    rfl
  · obtain ⟨a, ns, k, rfl, hS, hk, q⟩ := h
    refine ⟨_, (pss_cons (ps_set (i := 2) sc_pot.nd rfl (Or.inl rfl) (pe_op op_add (pe_op op_mul pe_int (pv 1)) pe_int))
  (pss_cons (ps_if (pt_cmpR op_lt (pv 1) (pe_callB call_len_seq' (by rfl) B.len bt_len (pa_cons (pv 0) pa_nil)) (nomark _))
  (pss_one (ps_set (i := 2) sc_pot.nd rfl (Or.inl rfl) (pe_callB call_abs (by rfl) B.abs bt_abs (pa_cons (pe_ix ix_list' (pv 0) (pv 1) (fun _ _ => rfl)) pa_nil))))
  pss_nil)
  (pss_one (ps_ret (pe_lst (pa_cons (pe_callB (call_max2 rfl) (by rfl) B.max bt_max (pa_cons pe_int (pa_cons (pe_op op_sub (pv 2) (pe_op op_pow pe_int pe_int)) pa_nil))) (pa_cons (pe_op op_add (pe_op op_mod (pe_op op_mul (pe_callTy call_int1 (by rfl) B.int bt_int (pa_cons (pe_op op_add (pe_op op_mod (pe_callTy call_int1 (by rfl) B.int bt_int (pa_cons (pv 2) pa_nil)) pe_int) pe_int) pa_nil)) (pe_op op_pow (pe_op op_add (pe_op op_mul pe_int (pv 1)) pe_int) pe_int)) pe_int) pe_int) pa_nil))))))), ?_⟩
    walk_at "rd"
    refine ⟨a, _, rfl, .inl hS, ?_⟩
    walk_at "rd"
    have fin : ∀ y : Int, 0 ≤ y % 2147483477 + 1 ∧ y % 2147483477 + 1 < 2147483648 := fun y => by omega
    have fin2 : ∀ z : Int, 0 ≤ (if z > 0 then z else 0) := fun z => by split <;> omega
    refine ite2 (fun hlt => ?_) (fun _ => ?_)
    · have hlt' : k < (ns.map V.int).length := by
        have h0 := of_decide_eq_true hlt
        omega
      have hn : k < ns.length := by simpa using hlt'
      walk_at "rd"
      refine ⟨a, _, _, _, rfl, rfl, hS, atI_nat (by rw [List.getElem?_map, List.getElem?_eq_getElem hn]; rfl), ?_⟩
      walk_at "rd"
      refine ⟨⟨by decide, by decide, by omega⟩, ?_⟩
      walk_at "rd"
      refine ⟨.inl ⟨by omega, by omega⟩, ?_⟩
      walk_at "rd"
      refine ⟨by show 2 ≤ sizeLine; decide, fun p hp => ?_⟩
      exact q p hp _ _ (fin2 _) (fin _).1 (fin _).2
    · walk_at "rd"
      refine ⟨⟨by decide, by decide, by omega⟩, ?_⟩
      walk_at "rd"
      refine ⟨.inl ⟨by omega, by omega⟩, ?_⟩
      walk_at "rd"
      refine ⟨by show 2 ≤ sizeLine; decide, fun p hp => ?_⟩
      exact q p hp _ _ (fin2 _) (fin _).1 (fin _).2
theorem ok_draw {f : Addr} {fd : FuncData} (F : Df K "_law_draw" "_law_draw" s_draw [] f fd) (B : Blt mg) : FnOk P w K mg base CX0 1 f fd ["_law_pot_here", "_law_size"] sp_draw := by
  refine dfOk F sc_draw (fun vs H Q E h => ?_) (fun cdv A outer s H vs Q E hr h => ?_)
  · obtain ⟨p, n, rfl, _⟩ := h
    rfl
  · obtain ⟨p, n, rfl, hp, hn, hz, q⟩ := h
    obtain ⟨x, y, e, hx, hy, hy2⟩ := hp.ex
    have fin : ∀ (d : Int) (H' : Hp), 0 ≤ d → d < n → Pot H' p → Bu p H H' → Q (.int d) H' := fun d H' h0 h1 h2 h3 => by
      obtain ⟨j, rfl⟩ := Int.eq_ofNat_of_zero_le h0
      exact q j H' h1 h2 h3
    refine ⟨_, (pss_cons (ps_if (pt_cmpR op_gt (pe_ix ix_list' (pv 0) pe_int (fun _ _ => rfl)) pe_int (nomark _))
  (pss_cons (ps_asg (pe_callB call_divmodW (by rfl) B.divmod bt_divmod (pa_cons (pe_ix ix_list' (pv 0) pe_int (fun _ _ => rfl)) (pa_cons (pv 1) pa_nil))) (pg_tup' 2 (pgs_cons (pg_sub (pv 0) pe_int set_list) (pgs_cons (pg_name (i := 2) sc_draw.nd rfl (Or.inl rfl)) pgs_nil))))
  (pss_one (ps_ret (pv 2))))
  pss_nil)
  (pss_cons (ps_asg (pe_op op_mod (pe_callTy call_int1 (by rfl) B.int bt_int (pa_cons (pe_op op_add (pe_op op_mul (pe_ix ix_list' (pv 0) pe_int (fun _ _ => rfl)) pe_int) pe_int) pa_nil)) pe_int) (pg_sub (pv 0) pe_int set_list))
  (pss_one (ps_ret (pe_op op_mod (pe_callTy call_int1 (by rfl) B.int bt_int (pa_cons (pe_op op_fdiv (pe_op op_mod (pe_callTy call_int1 (by rfl) B.int bt_int (pa_cons (pe_op op_mul (pe_ix ix_list' (pv 0) pe_int (fun _ _ => rfl)) (pe_ix ix_list' (pv 0) pe_int (fun _ _ => rfl))) pa_nil)) pe_int) pe_int) pa_nil)) (pv 1)))))), ?_⟩
    refine ⟨_, rfl, p, _, _, _, rfl, rfl, SqL.of e, rfl, _, _, rfl, rfl, _, rfl, ?_⟩
    refine ite2 (fun h => ?_) (fun h => ?_)
    · refine ⟨_, rfl, p, _, _, _, rfl, rfl, SqL.of e, rfl, _, rfl, _, _, rfl, divp_of hn (log_small hz), fun t ht => ?_⟩
      refine ⟨t, _, rfl, SqT.of upd_same, rfl, _, _, rfl, _, rfl, p, _, _, 0, rfl, rfl, by rw [upd_ne (ne_of_none e ht)]; exact e, rfl, _, _, rfl, rfl, _, rfl, ?_⟩
      refine fin _ _ (Int.emod_nonneg _ (by omega)) (Int.emod_lt_of_pos _ hn) ⟨_, y, upd_same, Int.ediv_nonneg hx (by omega), hy, hy2⟩ ((Bu.new ht).trans Bu.set)
    · refine ⟨_, rfl, p, _, _, _, rfl, rfl, SqL.of e, rfl, _, _, rfl, rfl, .inr ⟨by decide, by decide⟩, ?_⟩
      walk_at "rd"
      refine ⟨p, _, _, 1, rfl, rfl, e, rfl, ?_⟩
      have hb : ∀ z : Int, 0 ≤ z % 2147483587 ∧ z % 2147483587 < 2147483648 := fun z => by omega
      refine ⟨_, rfl, p, _, _, _, rfl, rfl, SqL.of upd_same, rfl, _, rfl, p, _, _, _, rfl, rfl, SqL.of upd_same, rfl, _, _, rfl, rfl, .inl ⟨Int.lt_of_lt_of_le (by decide) (hb _).1, Int.lt_trans (hb _).2 (by decide)⟩, ?_⟩
      walk_at "rd"
      refine ⟨⟨by decide, by decide⟩, ?_⟩
      walk_at "rd"
      refine ⟨hn, ?_⟩
      exact fin _ _ (Int.emod_nonneg _ (by omega)) (Int.emod_lt_of_pos _ hn) ⟨x, _, upd_same, hx, (hb _).1, (hb _).2⟩ Bu.set
theorem ok_pick {f : Addr} {fd : FuncData} (F : Df K "_law_pick" "_law_pick" s_pick [] f fd) (B : Blt mg) (cDr : Ca P w K mg base 1 "_law_draw" sp_draw []) : FnOk P w K mg base CX0 2 f fd ["_law_pot_here", "_law_some"] (sp_pick K) := by
  refine dfOk F sc_pick (fun vs H Q E h => ?_) (fun cdv A outer s H vs Q E hr h => ?_)
  · obtain ⟨p, l, xs, rfl, _⟩ := h
    rfl
  · obtain ⟨p, l, xs, rfl, hp, hl, hS, hne, hlen, q⟩ := h
    refine ⟨_, (pss_one (ps_ret (pe_ix ix_list' (pv 1) (pe_ca cDr hr (by decide) (by rfl) (pa_cons (pv 0) (pa_cons (pe_callB call_len_seq' (by rfl) B.len bt_len (pa_cons (pv 1) pa_nil)) pa_nil))) (fun _ _ => rfl)))), ?_⟩
    have h0 : 0 < xs.length := List.length_pos_iff.mpr hne
    refine ⟨_, rfl, _, rfl, _, rfl, l, xs, rfl, .inl hS, p, _, rfl, hp, by omega, by omega, fun j H' hd2 hp' b => ?_⟩
    have hj : j < xs.length := by omega
    exact ⟨l, xs, _, xs[j], rfl, rfl, b.seqL hl hS, atI_nat (by simp [hj]), q _ _ (List.getElem_mem hj) hp' b⟩
/-- a draw, as it is called -/
theorem draw_lt {H : Hp} {p : Addr} {n : Int} {Q : VK} (hp : Pot H p) (h0 : 0 < n) (h1 : n ≤ 1000000) (q : ∀ (d : Nat) (H' : Hp), (d : Int) < n → Pot H' p → Bu p H H' → Q (.int d) H') : sp_draw [.ref p, .int n] H Q E0 := ⟨p, n, rfl, hp, h0, by omega, q⟩
end
end T
set_option Elab.async false
set_option maxRecDepth 100000
set_option maxHeartbeats 4000000
namespace Mv
open PySem PySem.Spec PyProof.Rows L2
/-- C(*e), C a class with a positional promise -/
def tMakeS (K : PySem.W.Frag) (C : Addr) (sp : Sp) (te : TE) : TE := fun σ H Q => te σ H fun y H1 => ∃ a xs, y = V.ref a ∧ (SqT K H1 a xs ∨ SqL K H1 a xs) ∧ ∀ x dx, H1 x = Option.none → H1 dx = Option.none → dx ≠ x →
  sp (V.ref x :: xs) (upd (upd H1 dx (.own x)) x (.ins C dx [])) (fun v H2 => v = .non ∧ Q (.ref x) H2) E0
section
variable {X : Cx} {k j : Nat} {C : Addr} {x : Str} {sp : Sp} {p pos sp_ : Pos} {e : Expr} {te : TE}
theorem pe_marS (c : MaR X.prog X.w X.K X.mg X.base k x C sp) (hr : Room j X.A) (hk : k + 1 ≤ j) (hg : Gl X x) (he : PE X e te) (hd : (x == ("__debug__" : Str)) = false := by decide)
    (hst : starEach [.Starred e sp_] X.env = [(true, eval e X.env)] := by rfl) :
    PE X (.Call (.Name x p) [.Starred e sp_] [] pos) (tMakeS X.K C sp te) := by
  obtain ⟨f, M, F, hm⟩ := c.ex
  refine ⟨fun pins s σ H Q I h => ?_⟩
  refine wpAny_Call_Name_kw (ld_glob I hg hm ?_ hd)
  refine PySem.W.callWith_S (h₀ := X.base) I.ok.mod.kin M.kp (thn (he.run pins s σ H _ I h) fun v s1 ⟨y, H1, I1, ry, a, xs, ey, hxs, q⟩ => ?_) hst
  subst ey
  obtain rfl : v = Value.ref a := ry
  exact StX.star_any I1 hxs fun us s2 I2 rv => ⟨I2.kIn, StX.run_makeR M F (hr.mono hk) pass0 I2 rv q⟩
end
end Mv
set_option Elab.async false
set_option maxRecDepth 100000
set_option maxHeartbeats 4000000
namespace HT
open PySem PySem.Spec PyProof.Rows
section
variable {prog : Program} {w : World} {A : Around} {E : Value → Shared → Prop} {s : Shared}
/-- t[::-1] of a tuple -/
theorem getItem_tuple_rev {t sl : Addr} {items : Array Value} {vl vu vs : Value} {Q : Value → Shared → Prop} (ht : IsTup s.heap t items) (hs : s.heap.IsSliceOf sl vl vu vs) (pl : IsPart vl none) (pu : IsPart vu none) (ps : IsPart vs (some (-1)))
    (h : Q (.ref s.heap.objs.size) { s with heap := s.heap.push { cls := .type "tuple", data := .seq items.toList.reverse.toArray } })
    (hsz : items.size ≤ sizeLine) : wpAny (model prog w) A (getItem (.ref t) (.ref sl)) Q E s := by
  have htake : sizeOk (.seq items.toList.reverse.toArray) := by
    show items.toList.reverse.toArray.size ≤ sizeLine
    simpa using hsz
  obtain ⟨os, hos, hcs, hds⟩ := id hs
  have hTs : s.TypeIs (.ref sl) "slice" := ⟨os, hos, hcs⟩
  unfold getItem
  try with_reducible refine wpAny_holding ?_
  first | refine wpAny_bind (wpAny_pure ?_) | skip
  refine wpAny_bind (wpAny_sequenceKey ht.typeIs (by decide) ?_)
  refine wpAny_bind (wpAny_callSpecial?_slot (name := Str.ofString "__getitem__") ht.typeIs PyProof.Rows.slot_tuple_getitem
    (wpAny_call_entry PyProof.Rows.slot_tuple_getitem ht.typeIs entry_tuple_getitem ?_ (args_tuple_getitem _ _)))
  show wpAny _ _ (Builtin.Tuple.tupleItemsOf (.ref t) >>= _) _ _ s
  refine wpAny_bind (tupleItemsOf_ ht ?_)
  refine wpAny_bind (wpAny_typeOf hTs ?_)
  rw [if_pos (by decide)]
  have ap : ∀ {Q : Int × Int × Nat → Shared → Prop} {E : Value → Shared → Prop} {A : Around}, Q (((items.size : Nat) : Int) - 1, -1, items.size) s → wpAny (model prog w) A (Builtin.Slice.sliceApplied (.ref sl) (pure (items.size : Int))) Q E s := by
    intro Q E A h
    unfold Builtin.Slice.sliceApplied Builtin.Slice.sliceFields
    refine wpAny_bind (wpAny_bind (wpAny_field hos hds (x := vl) rfl (wpAny_bind (wpAny_field hos hds (x := vu) rfl (wpAny_bind (wpAny_field hos hds (x := vs) rfl (wpAny_pure ?_)))))))
    refine wpAny_bind (slicePart_ ps ?_)
    show wpAny _ _ (if ((-1 : Int) == 0) = true then _ else _) _ _ s
    rw [if_neg (by decide)]
    refine wpAny_bind (slicePart_ pl (wpAny_bind (slicePart_ pu (wpAny_bind (wpAny_pure ?_)))))
    show wpAny _ _ (pure (((items.size : Nat) : Int) - 1, (-1 : Int), Builtin.Slice.slicePlaces (((items.size : Nat) : Int) - 1) (-1) (-1))) _ _ s
    have e : Builtin.Slice.slicePlaces (((items.size : Nat) : Int) - 1) (-1) (-1) = items.size := by
      unfold Builtin.Slice.slicePlaces
      rw [if_neg (by decide)]
      by_cases h0 : ((items.size : Nat) : Int) - 1 > -1
      · rw [if_pos h0, show (- -1 : Int) = 1 by decide, Int.ediv_one]
        omega
      · rw [if_neg h0]
        omega
    rw [e]
    exact wpAny_pure h
  refine wpAny_bind (ap ?_)
  show wpAny _ _ (if ((((items.size : Nat) : Int) - 1) == 0 && (-1 : Int) == 1 && items.size == items.size) = true then _ else _) _ _ s
  rw [if_neg (by simp)]
  have pk : ((List.range items.size).filterMap fun (k : Nat) => items[(((items.size : Nat) : Int) - 1 + (k : Int) * (-1)).toNat]?).toArray = items.toList.reverse.toArray := by
    have := PySem.W.krv_pick items
    unfold slicePick at this
    rw [← this, PySem.W.krv_bounds]
    show _ = ((sliceRange ((items.size : Int) - 1) (-1) (-1)).filterMap (items[·]?)).toArray
    rw [PySem.W.krv_sliceRange, List.filterMap_map]
    congr 1
    have cg : ∀ (l : List Nat) (f g : Nat → Option Value), (∀ k ∈ l, f k = g k) → l.filterMap f = l.filterMap g := by
      intro l f g h
      induction l with
      | nil => rfl
      | cons a l ih => rw [List.filterMap_cons, List.filterMap_cons, h a (List.mem_cons_self ..), ih fun k hk => h k (List.mem_cons_of_mem _ hk)]
    refine cg _ _ _ fun k hk => ?_
    have := List.mem_range.mp hk
    show items[_]? = items[items.size - 1 - k]?
    congr 1
    omega
  rw [pk]
  first
    | exact wpAny_bind (m := Builtin.Tuple.tupleExact _) (wpAny_newObj_type (wpAny_pure ⟨_, rfl, wpAny_pure h⟩) htake)
    | exact wpAny_bind (m := Builtin.Tuple.tupleExact _) (wpAny_newObj_type (wpAny_bind (wpAny_pure (wpAny_pure ⟨_, rfl, wpAny_pure h⟩))) htake)
    | exact wpAny_bind (wpAny_bind (m := Builtin.Tuple.tupleExact _) (wpAny_newObj_type (wpAny_pure (wpAny_pure ⟨_, rfl, wpAny_pure h⟩)) htake))
    | exact wpAny_bind (wpAny_bind (m := Builtin.Tuple.tupleExact _) (wpAny_newObj_type (wpAny_pure ⟨_, rfl, wpAny_pure h⟩) htake))
end
end HT
namespace Mv
open PySem PySem.Spec PyProof.Rows L2
/-- t[::-1] of a tuple: a new tuple -/
def tRevT (K : PySem.W.Frag) (te : TE) : TE := fun σ H Q => te σ H fun x H1 => ∃ a xs, x = .ref a ∧ SqT K H1 a xs ∧ ∀ p, H1 p = none → Q (.ref p) (upd H1 p (.tup xs.reverse))
theorem pe_revT {X : Cx} {e : Expr} {te : TE} {k : Nat} {p1 p2 p3 pos : Pos} (he : PE X e te) : PE X (.Subscript e (.Slice none none (some (.UnaryOp .USub (.Constant (.int 1) k p1) p2)) p3) pos) (tRevT X.K te) := by
  refine ⟨fun pins s σ H Q I h => ?_⟩
  refine Subscript_ (thn (he.run pins s σ H _ I h) fun v s1 ⟨x, H1, I1, r1, q1⟩ => ?_)
  obtain ⟨a, xs, ex, hx, q⟩ := q1
  subst ex
  cases r1
  have hst : PO X (some (.UnaryOp .USub (.Constant (.int 1) k p1) p2)) (tPart (tUn (rU fun i => .int (-i)) (tC (.int 1)))) := po_some (pe_un un_neg pe_int)
  refine wpAny_Slice (thn (po_none.run pins s1 σ H1 (fun o H2 => o = none ∧ H2 = H1) I1 ⟨rfl, rfl⟩) fun vl s2 ⟨l, H2, I2, pl, el, e2⟩ => ?_)
  subst el e2
  refine thn (po_none.run pins s2 σ H2 (fun o H3 => o = none ∧ H3 = H2) I2 ⟨rfl, rfl⟩) fun vu s3 ⟨u, H3, I3, pu, eu, e3⟩ => ?_
  subst eu e3
  refine thn (hst.run pins s3 σ H3 (fun o H4 => o = some (-1) ∧ H4 = H3) I3 ⟨1, rfl, -1, rfl, rfl, rfl⟩) fun vs s4 ⟨o, H4, I4, ps, eo, e4⟩ => ?_
  subst eo e4
  have I5 : Inv X pins σ H4 { s4 with heap := s4.heap.push { cls := .type "slice", data := .fields #[vl, vu, vs] } } := I4.kept (t' := s4.toks) fun b ob q => Heap.get?_push_of_some _ q
  obtain ⟨its, r, ht, hz⟩ := I5.tuple hx
  have hlen := r.length
  show wpAny (model X.prog X.w) X.A (subscriptTail e (.Slice none none (some (.UnaryOp .USub (.Constant (.int 1) k p1) p2)) p3) (.ref a) (.ref s4.heap.objs.size)) (EP X pins σ Q) X.xe { s4 with heap := s4.heap.push { cls := .type "slice", data := .fields #[vl, vu, vs] } }
  refine tail_any (ops := [.ref a, .ref s4.heap.objs.size]) ht.typeIs (PyProof.Rows.slot_tuple_getitem.lookup) ?_ (by with_unfolding_all rfl)
  refine HT.getItem_tuple_rev ht (Heap.IsSliceOf.new _ vl vu vs) pl pu ps ?_ (by rw [List.size_toArray]; omega)
  refine ⟨.ref _, _, I5.laid (t' := s4.toks) (o := .tup xs.reverse) (fun b ob q => Heap.get?_push_of_some _ q) (Nat.le_refl _) ?_, rfl, q _ (I5.hok.fresh (Nat.le_refl _))⟩
  refine ⟨by rw [List.length_reverse]; exact hz, _, r.reverse, ?_⟩
  exact IsTup.new _ _
end Mv
set_option Elab.async false
set_option maxRecDepth 100000
set_option maxHeartbeats 4000000
namespace Mv
open PySem PySem.Spec PyProof.Rows L2
/-- a def that an operator of the class at C finds -/
structure Op3 (P : Program) (w : World) (K : PySem.W.Frag) (mg : Str → Option Value) (base : Heap) (k : Nat) (C : Addr) (m : Str) (sp : Sp) : Prop where
  ex : ∃ (g : Addr) (fd : FuncData) (ps : List Str), FnOk P w K mg base CX0 k g fd ps sp ∧ Binds K fd ps [] ∧ PySem.W.findIn K (.ref C) m = some (some (.ref g)) ∧ PySem.W.isFn K (.ref g) = true ∧ PySem.W.fnIn K g = true
  sf : PySem.W.selfFirst K C = true
  ns : PySem.W.noSeq K C = true
section
variable {X : Cx} {k : Nat} {C : Addr} {sp : Sp} {m : Str}
/-- x op= y, x an instance with its own method -/
def rInst (C : Addr) (sp : Sp) : R2 := fun x y H Q => ∃ a dx fs, x = .ref a ∧ H a = some (.ins C dx fs) ∧ sp [x, y] H Q E0
theorem ip_own {op : Operator} (c : Op3 X.prog X.w X.K X.mg X.base k C m sp) (hr : Room k X.A) (hm : PySem.dunderI op.info.2 = m := by decide +kernel) : PIp X op (rInst C sp) := by
  obtain ⟨g, fd, ps, F, hb, hs, hf, _⟩ := c.ex
  intro pins s σ H x y v u Q I rx ry h
  obtain ⟨a, dx, fs, rfl, ea, q⟩ := h
  obtain rfl : v = Value.ref a := rx
  obtain ⟨mA, O, _⟩ := ins_get I.hok ea
  obtain ⟨od, J, _⟩ := O.look
  obtain ⟨mm, hF⟩ := I.fr
  subst hm
  refine PySem.W.ksp_inplace hF I.ok.mod.kin J c.sf hs hf ?_
  refine wpAny_mono (run_at (vs := [.ref a, y]) F hr I.ok.frames hb I (.cons rfl (.cons ry .nil)) q) (fun w s' z => ?_) fun _ _ x => x
  obtain ⟨z', H', I', rz, qz⟩ := z
  exact SlX.cmpback rz ⟨z', H', I', rz, qz⟩
/-- x op y of two instances of one class -/
def rBinO (K : PySem.W.Frag) (C : Addr) (sp : Sp) : R2 := fun x y H Q => ∃ a dx fs, x = .ref a ∧ H a = some (.ins C dx fs) ∧ TyX K H y (.ref C) ∧ sp [x, y] H Q E0
theorem op_binO {op : Operator} (c : Op3 X.prog X.w X.K X.mg X.base k C m sp) (hr : Room k X.A) (hm : PySem.dunder op.info.2 = m := by decide +kernel) : OpR X (binaryOp op) (rBinO X.K C sp) := by
  obtain ⟨g, fd, ps, F, hb, hs, hf, _⟩ := c.ex
  intro pins s σ H x y v u Q I rx ry h
  obtain ⟨a, dx, fs, rfl, ea, ty, q⟩ := h
  obtain rfl : v = Value.ref a := rx
  obtain ⟨mA, O, _⟩ := ins_get I.hok ea
  obtain ⟨od, J, _⟩ := O.look
  obtain ⟨mm, hF⟩ := I.fr
  obtain ⟨P, kx, hP, _⟩ := kit_of I ry ty
  subst hm
  refine PySem.W.binop_K hF I.ok.mod.kin J (kx.ty _ _ I.kIn hP) c.sf hs hf ?_
  refine wpAny_mono (run_at (vs := [.ref a, y]) F hr I.ok.frames hb I (.cons rfl (.cons ry .nil)) q) (fun w s' z => ?_) fun _ _ x => x
  obtain ⟨z', H', I', rz, qz⟩ := z
  exact SlX.cmpback rz ⟨z', H', I', rz, qz⟩
/-- x op i, i an int -/
def rBinI (C : Addr) (sp : Sp) : R2 := fun x y H Q => ∃ a dx fs i, x = .ref a ∧ y = .int i ∧ H a = some (.ins C dx fs) ∧ sp [x, y] H Q E0
theorem op_binI {op : Operator} {fo ro rc : Option Value} (c : Op3 X.prog X.w X.K X.mg X.base k C m sp) (hr : Room k X.A) (hr2 : PySem.W.findIn X.K (.ref C) (PySem.dunderR op.info.2) = some rc) (hp : rc = none ∨ ∃ g : Addr, rc = some (.ref g))
    (h1 : PySem.W.findIn X.K (.type "int") (PySem.dunder op.info.2) = some fo) (h2 : PySem.W.findIn X.K (.type "int") (PySem.dunderR op.info.2) = some ro) (hsub : PySem.W.subIn X.K (.type "int") (.ref C) = some false) (hm : PySem.dunder op.info.2 = m := by decide +kernel) : OpR X (binaryOp op) (rBinI C sp) := by
  obtain ⟨g, fd, ps, F, hb, hs, hf, _⟩ := c.ex
  intro pins s σ H x y v u Q I rx ry h
  obtain ⟨a, dx, fs, i, rfl, rfl, ea, q⟩ := h
  obtain rfl : v = Value.ref a := rx
  obtain ⟨mA, O, _⟩ := ins_get I.hok ea
  obtain ⟨od, J, _⟩ := O.look
  obtain ⟨mm, hF⟩ := I.fr
  have ry' := ry
  obtain ⟨tk, rfl⟩ := ry'
  subst hm
  refine PySem.W.ksp_binT (T := "int") hF I.ok.mod.kin J rfl c.sf hs hf hr2 hp h1 h2 hsub ?_
  refine wpAny_mono (run_at (vs := [.ref a, .int i]) F hr I.ok.frames hb I (.cons rfl (.cons ry .nil)) q) (fun w s' z => ?_) fun _ _ x => x
  obtain ⟨z', H', I', rz, qz⟩ := z
  exact SlX.cmpback rz ⟨z', H', I', rz, qz⟩
/-- - x -/
def rNegO (C : Addr) (sp : Sp) : V → Hp → VK → Prop := fun x H Q => ∃ a dx fs, x = .ref a ∧ H a = some (.ins C dx fs) ∧ sp [x] H Q E0
theorem un_negO (c : Op3 X.prog X.w X.K X.mg X.base k C "__neg__" sp) (hr : Room k X.A) : UnR X (unaryOp .USub) (rNegO C sp) := by
  obtain ⟨g, fd, ps, F, hb, hs, hf, _⟩ := c.ex
  intro pins s σ H x v Q I rx h
  obtain ⟨a, dx, fs, rfl, ea, q⟩ := h
  obtain rfl : v = Value.ref a := rx
  obtain ⟨mA, O, _⟩ := ins_get I.hok ea
  obtain ⟨od, J, _⟩ := O.look
  obtain ⟨mm, hF⟩ := I.fr
  refine PySem.W.ksp_neg hF I.ok.mod.kin J hs hf ?_
  exact run_at (vs := [.ref a]) F hr I.ok.frames hb I (.cons rfl .nil) q
/-- x[i] by an own __getitem__ -/
theorem pe_ixO {a b : Expr} {ta tb : TE} {pos : Pos} (c : Op3 X.prog X.w X.K X.mg X.base k C "__getitem__" sp) (hr : Room (k + 1) X.A) (ha : PE X a ta) (hb : PE X b tb)
    (hsl : ∀ (x : Addr) (u : Value), subscripted b true (.ref x) u = runValue (.builtin "lifetime.subscript" ⟨[.ref x, u], []⟩) := by intros; with_unfolding_all rfl) : PE X (.Subscript a b pos) (tOp (rInst C sp) ta tb) := by
  obtain ⟨g, fd, ps, F, hbn, hs, hf, hfn⟩ := c.ex
  refine ⟨fun pins s σ H Q I h => ?_⟩
  refine Subscript_ (binT ha hb I h fun v u s2 x y H2 I2 rx ry q => ?_)
  obtain ⟨p, dx, fs, rfl, ea, q⟩ := q
  obtain rfl : v = Value.ref p := rx
  obtain ⟨mA, O, _⟩ := ins_get I2.hok ea
  obtain ⟨od, J, _⟩ := O.look
  obtain ⟨mm, hF⟩ := I2.fr
  refine PySem.W.sub_K hF I2.ok.mod.kin J hs hfn hf ?_ (hsl p u)
  exact run_at (vs := [.ref p, y]) F hr.in1 I2.ok.frames hbn I2 (.cons rfl (.cons ry .nil)) q
/-- x[i] = v by an own __setitem__ -/
theorem set_own (c : Op3 X.prog X.w X.K X.mg X.base k C "__setitem__" sp) (hr : Room k X.A) : PSet X (fun o i v H Q => ∃ a dx fs, o = .ref a ∧ H a = some (.ins C dx fs) ∧ sp [o, i, v] H (fun _ H' => Q H') E0) := by
  obtain ⟨g, fd, ps, F, hb, hs, hf, _⟩ := c.ex
  intro pins s σ H o i v ov iv u Q I ro ri rv h
  obtain ⟨a, dx, fs, rfl, ea, q⟩ := h
  obtain rfl : ov = Value.ref a := ro
  obtain ⟨mA, O, _⟩ := ins_get I.hok ea
  obtain ⟨od, J, _⟩ := O.look
  obtain ⟨mm, hF⟩ := I.fr
  refine PySem.W.ksp_setItem hF I.ok.mod.kin J c.ns hs hf ?_
  refine wpAny_mono (run_at (vs := [.ref a, i, v]) F hr I.ok.frames hb I (.cons rfl (.cons ri (.cons rv .nil))) q) (fun w s' z => ?_) fun _ _ x => x
  obtain ⟨z', H', I', rz, qz⟩ := z
  exact ⟨H', I', qz⟩
end
section
variable {X : Cx} {P : Program} {w : World} {K : PySem.W.Frag} {mg : Str → Option Value} {base : Heap} {k j : Nat} {C : Addr} {sp : Sp} {m : Str}
theorem ip_own' {op : Operator} (c : Op3 P w K mg base k C m sp) (hr : Room j X.A) (hk : k ≤ j) (hm : PySem.dunderI op.info.2 = m := by decide +kernel) (e : Over X P w K mg base := by exact ⟨rfl, rfl, rfl, rfl, rfl⟩) : PIp X op (rInst C sp) := by
  obtain ⟨rfl, rfl, rfl, rfl, rfl⟩ := e
  exact ip_own c (hr.mono hk) hm
theorem op_binO' {op : Operator} (c : Op3 P w K mg base k C m sp) (hr : Room j X.A) (hk : k ≤ j) (hm : PySem.dunder op.info.2 = m := by decide +kernel) (e : Over X P w K mg base := by exact ⟨rfl, rfl, rfl, rfl, rfl⟩) : OpR X (binaryOp op) (rBinO K C sp) := by
  obtain ⟨rfl, rfl, rfl, rfl, rfl⟩ := e
  exact op_binO c (hr.mono hk) hm
theorem un_negO' (c : Op3 P w K mg base k C "__neg__" sp) (hr : Room j X.A) (hk : k ≤ j) (e : Over X P w K mg base := by exact ⟨rfl, rfl, rfl, rfl, rfl⟩) : UnR X (unaryOp .USub) (rNegO C sp) := by
  obtain ⟨rfl, rfl, rfl, rfl, rfl⟩ := e
  exact un_negO c (hr.mono hk)
theorem pe_ixO' {a b : Expr} {ta tb : TE} {pos : Pos} (c : Op3 P w K mg base k C "__getitem__" sp) (hr : Room j X.A) (hk : k + 1 ≤ j) (ha : PE X a ta) (hb : PE X b tb)
    (hsl : ∀ (x : Addr) (u : Value), subscripted b true (.ref x) u = runValue (.builtin "lifetime.subscript" ⟨[.ref x, u], []⟩) := by intros; with_unfolding_all rfl) (e : Over X P w K mg base := by exact ⟨rfl, rfl, rfl, rfl, rfl⟩) : PE X (.Subscript a b pos) (tOp (rInst C sp) ta tb) := by
  obtain ⟨rfl, rfl, rfl, rfl, rfl⟩ := e
  exact pe_ixO c (hr.mono hk) ha hb hsl
theorem set_own' (c : Op3 P w K mg base k C "__setitem__" sp) (hr : Room j X.A) (hk : k ≤ j) (e : Over X P w K mg base := by exact ⟨rfl, rfl, rfl, rfl, rfl⟩) : PSet X (fun o i v H Q => ∃ a dx fs, o = .ref a ∧ H a = some (.ins C dx fs) ∧ sp [o, i, v] H (fun _ H' => Q H') E0) := by
  obtain ⟨rfl, rfl, rfl, rfl, rfl⟩ := e
  exact set_own c (hr.mono hk)
end
end Mv
set_option Elab.async false
set_option maxRecDepth 100000
set_option maxHeartbeats 4000000
/-! Readings step by step, led by the goal's head: each go_x takes one combinator away. Facts are carried to a later heap by the up_x. -/
namespace Mv
open PySem PySem.Spec PyProof.Rows L2
section
variable {X : Cx} {K : PySem.W.Frag}
theorem op_catA' (e : X.K = K := by (conv => lhs; whnf)) : OpR X (binaryOp .Add) (rCatA K) := by
  subst e
  exact op_catA
theorem sl_list' (e : X.K = K := by (conv => lhs; whnf)) : SlR X (rSlL K) := by
  subst e
  exact sl_list
theorem pe_fld' {a : Expr} {f : Str} {pos : Pos} {ta : TE} (he : PE X a ta) (hb : attributeBase a f X.env (eval a X.env) = eval a X.env) (e : X.K = K := by (conv => lhs; whnf)) : PE X (.Attribute a f pos) (tFld K ta f) := by
  subst e
  exact pe_fld he hb
theorem cr_all' (hc : X.calm = true) (e : X.K = K := by (conv => lhs; whnf)) : CallR X (.builtin "all") (rAll K) := by
  subst e
  exact cr_all hc
theorem cr_any' (hc : X.calm = true) (e : X.K = K := by (conv => lhs; whnf)) : CallR X (.builtin "any") (rAny K) := by
  subst e
  exact cr_any hc
end
/-- a value that is a bool, an int -/
def AsB (Q : Bool → Hp → Prop) : VK := fun x H => ∃ c, x = .bl c ∧ Q c H
def AsI (Q : Int → Hp → Prop) : VK := fun x H => ∃ i, x = .int i ∧ Q i H
def Par2 (i j : Nat) (n : L2.St → Hp → Prop) (σ : L2.St) : List V → Hp → Prop := fun vs H1 => ∃ v w, vs = [v, w] ∧ n ((σ.set i (some v)).set j (some w)) H1
/-- a new tuple, a new list -/
def NewT (Q : VK) : List V → Hp → Prop := fun xs H1 => xs.length ≤ sizeLine ∧ ∀ p, H1 p = none → Q (.ref p) (upd H1 p (.tup xs))
def NewL (Q : VK) : List V → Hp → Prop := fun xs H1 => xs.length ≤ sizeLine ∧ ∀ p, H1 p = none → Q (.ref p) (upd H1 p (.lst xs))
def MeR (C : Addr) (m : Str) (sp : Sp) (dvs : List V) (E : XK) (t : TA) (σ : L2.St) (Q : VK) : VK := fun x H1 => ∃ a dx fs, x = .ref a ∧ H1 a = some (.ins C dx fs) ∧ fs.lookup m = none ∧ t σ H1 fun vs H2 => sp (x :: (vs ++ dvs)) H2 Q E
def PrR (C : Addr) (sp : Sp) (dvs : List V) (E : XK) (Q : VK) : VK := fun x H1 => ∃ a dx fs, x = .ref a ∧ H1 a = some (.ins C dx fs) ∧ sp (.ref a :: dvs) H1 Q E
def FlR (K : PySem.W.Frag) (f : Str) (Q : VK) : VK := fun x H1 => ∃ a C dx fs v, x = .ref a ∧ H1 a = some (.ins C dx fs) ∧ Cls K C ∧ NoAttr K C f ∧ fs.lookup f = some v ∧ Q v H1
theorem cutF (xs : List V) (k : Nat) : cutV xs (some (k : Int)) none = xs.drop k := by
  unfold cutV
  rw [HT.sIx_nat, HT.sIx_none]
  rcases Nat.le_total k xs.length with z | z
  · rw [Nat.min_eq_left z, List.take_of_length_le (by simp)]
  · rw [Nat.min_eq_right z, Nat.sub_self, List.take_zero, List.drop_eq_nil_of_le z]
theorem cutT (xs : List V) (k : Nat) : cutV xs none (some (k : Int)) = xs.take k := by
  unfold cutV
  rw [HT.sIx_nat, HT.sIx_none, List.drop_zero, Nat.sub_zero]
  rcases Nat.le_total k xs.length with z | z
  · rw [Nat.min_eq_left z]
  · rw [Nat.min_eq_right z, List.take_length, List.take_of_length_le z]
section
variable {K : PySem.W.Frag} {C : Addr} {f m : Str} {σ σ' : L2.St} {H H' : Hp} {Q : VK} {QB : Bool → Hp → Prop} {QL : List V → Hp → Prop} {QS n b c : L2.St → Hp → Prop} {v x y w : V} {vs xs ys dvs : List V} {ta tb tc te : TE} {t tr : TA} {tt tu : TT} {ts tu' : TS} {g : TG} {r r' : R2} {sp : Sp} {E : XK} {a p q : Addr}
theorem go_var {i : Nat} (h : σ[i]? = some (some v)) (q : Q v H) : tVar i σ H Q := ⟨v, h, q⟩
theorem go_start {N : List Str} {D : Ends} (e : start N vs = σ) (q : ts D σ H) : ts D (start N vs) H := e ▸ q
theorem go_c (q : Q v H) : tC v σ H Q := q
theorem go_cN {n : Nat} (q : Q (.int ((@OfNat.ofNat Nat n (instOfNatNat n) : Nat) : Int)) H) : tC (.int (@OfNat.ofNat Int n (@instOfNat n))) σ H Q := q
theorem go_op (q : ta σ H fun x H1 => tb σ H1 fun y H2 => r x y H2 Q) : tOp r ta tb σ H Q := q
theorem go_un {r : V → Hp → VK → Prop} (q : ta σ H fun x H1 => r x H1 Q) : tUn r ta σ H Q := q
theorem go_nil (q : QL [] H) : tNil σ H QL := q
theorem go_cons (q : ta σ H fun x H1 => tr σ H1 fun xs H2 => QL (x :: xs) H2) : tCons ta tr σ H QL := q
theorem go_cb {r : List V → Hp → VK → Prop} (q : t σ H fun vs H1 => r vs H1 Q) : tCB r t σ H Q := q
theorem go_call0 (q : t σ H fun vs H1 => sp vs H1 Q E) : tCall sp [] E t σ H Q := by
  show t σ H fun vs H1 => sp (vs ++ []) H1 Q E
  simpa only [List.append_nil] using q
theorem go_call (q : t σ H fun vs H1 => sp (vs ++ dvs) H1 Q E) : tCall sp dvs E t σ H Q := q
theorem go_kn {n m : Nat} {gV : List V → List V → List V} (q : t σ H fun zs H2 => zs.length = m ∧ sp (gV vs zs) H2 Q E0) : tCallKn n m sp gV vs t σ H Q := q
theorem go_meth (q : ta σ H (MeR C m sp dvs E t σ Q)) : tMeth C m sp dvs E ta t σ H Q := q
theorem go_prop (q : ta σ H (PrR C sp dvs E Q)) : tProp C sp dvs E ta σ H Q := q
theorem go_mer {dx : Addr} {fs : List (Str × V)} (h : H a = some (.ins C dx fs)) (hm : fs.lookup m = none) (q : t σ H fun vs H2 => sp (.ref a :: vs) H2 Q E) : MeR C m sp [] E t σ Q (.ref a) H := by
  refine ⟨a, dx, fs, rfl, h, hm, ?_⟩
  simpa only [List.append_nil] using q
theorem go_prr {dx : Addr} {fs : List (Str × V)} (h : H a = some (.ins C dx fs)) (q : sp [.ref a] H Q E) : PrR C sp [] E Q (.ref a) H := ⟨a, dx, fs, rfl, h, q⟩
theorem go_fld (q : ta σ H (FlR K f Q)) : tFld K ta f σ H Q := q
theorem go_flr {dx : Addr} {fs : List (Str × V)} (h : H a = some (.ins C dx fs)) (hc : Cls K C) (hn : NoAttr K C f) (hl : fs.lookup f = some v) (q : Q v H) : FlR K f Q (.ref a) H := ⟨a, C, dx, fs, v, rfl, h, hc, hn, hl, q⟩
theorem go_tup (q : t σ H (NewT Q)) : tTup t σ H Q := q
theorem go_lst (q : t σ H (NewL Q)) : tLst t σ H Q := q
theorem go_newt (hz : xs.length ≤ sizeLine) (q : ∀ p H', H p = none → Same H H' → H' p = some (.tup xs) → Q (.ref p) H') : NewT Q xs H := ⟨hz, fun p hp => q p _ hp (same_new hp) upd_same⟩
theorem go_newl (hz : xs.length ≤ sizeLine) (q : ∀ p H', H p = none → Same H H' → H' p = some (.lst xs) → Q (.ref p) H') : NewL Q xs H := ⟨hz, fun p hp => q p _ hp (same_new hp) upd_same⟩
theorem go_tb (q : ta σ H (AsB QB)) : tB ta σ H QB := q
theorem go_test (q : ta σ H (AsB QB)) : tTest ta σ H QB := q
theorem go_asb {k : Bool} (q : QB k H) : AsB QB (.bl k) H := ⟨k, rfl, q⟩
theorem go_asi {QI : Int → Hp → Prop} {i : Int} (q : QI i H) : AsI QI (.int i) H := ⟨i, rfl, q⟩
theorem go_and (q : tt σ H fun k H1 => if k = true then tu σ H1 QB else QB false H1) : tAnd tt tu σ H QB := q
theorem go_or (q : tt σ H fun k H1 => if k = true then QB true H1 else tu σ H1 QB) : tOr tt tu σ H QB := q
theorem go_not (q : tt σ H fun k H1 => QB (!k) H1) : tNot tt σ H QB := q
theorem go_andv (q : ta σ H (AsB fun k H1 => if k = true then tb σ H1 Q else Q (.bl false) H1)) : tAndV ta tb σ H Q := q
theorem go_orv (q : ta σ H (AsB fun k H1 => if k = true then Q (.bl true) H1 else tb σ H1 Q)) : tOrV ta tb σ H Q := q
theorem go_notv (q : ta σ H (AsB fun k H1 => Q (.bl (!k)) H1)) : tNotV ta σ H Q := q
theorem go_ife (q : tt σ H fun k H1 => if k = true then ta σ H1 Q else tb σ H1 Q) : tIf tt ta tb σ H Q := q
theorem go_chain (q : ta σ H fun x H1 => tb σ H1 fun y H2 => r x y H2 (AsB fun k H3 => if k = true then tc σ H3 fun w' H4 => r' y w' H4 Q else Q (.bl false) H3)) : tChain r r' ta tb tc σ H Q := q
theorem go_seq {rt : VK} (q : ts ⟨tu' ⟨n, rt, b, c⟩, rt, b, c⟩ σ H) : tSeq ts tu' ⟨n, rt, b, c⟩ σ H := q
theorem go_next {rt : VK} (q : n σ H) : tNext ⟨n, rt, b, c⟩ σ H := q
theorem go_drop {rt : VK} (q : te σ H fun _ H1 => n σ H1) : tDrop te ⟨n, rt, b, c⟩ σ H := q
theorem go_ret {rt : VK} (q : te σ H rt) : tRet te ⟨n, rt, b, c⟩ σ H := q
theorem go_retn {rt : VK} (q : rt .non H) : tRetN ⟨n, rt, b, c⟩ σ H := q
theorem go_ifs {D : Ends} (q : tt σ H fun k H1 => if k = true then ts D σ H1 else tu' D σ H1) : tIfS tt ts tu' D σ H := q
theorem go_asg {rt : VK} (q : te σ H fun x H1 => g x σ H1 n) : tAsg te g ⟨n, rt, b, c⟩ σ H := q
theorem go_gname {i : Nat} (e : σ.set i (some v) = σ') (q : QS σ' H) : gName i v σ H QS := by subst e; exact q
theorem go_par {i j : Nat} {rt : VK} (q : t σ H (Par2 i j n σ)) : tPar i j t ⟨n, rt, b, c⟩ σ H := q
theorem go_par2 {i j : Nat} (e : (σ.set i (some v)).set j (some w) = σ') (q : n σ' H) : Par2 i j n σ [v, w] H := by subst e; exact ⟨v, w, rfl, q⟩
theorem go_gtup {k : Nat} {gs : TGs} (h : SqT K H a xs) (hl : xs.length = k) (q : gs xs σ H QS) : gTup K k gs (.ref a) σ H QS := ⟨a, xs, rfl, h, hl, q⟩
theorem go_gnil (q : QS σ H) : gNil [] σ H QS := ⟨rfl, q⟩
theorem go_gcons {gs : TGs} (q : g v σ H fun σ' H' => gs vs σ' H' QS) : gCons g gs (v :: vs) σ H QS := ⟨v, vs, rfl, q⟩
/-! tests whose answer is known -/
theorem go_if1 {A B : Prop} (h : A) : if true = true then A else B := iteT h
theorem go_if0 {A B : Prop} (h : B) : if false = true then A else B := iteF h
theorem go_ift {c A B : Prop} [Decidable c] (hc : c) (h : A) : if decide c = true then A else B := by rw [decide_eq_true hc]; exact iteT h
theorem go_iff {c A B : Prop} [Decidable c] (hc : ¬ c) (h : B) : if decide c = true then A else B := by rw [decide_eq_false hc]; exact iteF h
theorem go_ifnt {c A B : Prop} [Decidable c] (hc : c) (h : B) : if (!decide c) = true then A else B := by rw [decide_eq_true hc]; exact iteF h
theorem go_ifnf {c A B : Prop} [Decidable c] (hc : ¬ c) (h : A) : if (!decide c) = true then A else B := by rw [decide_eq_false hc]; exact iteT h
theorem go_ifn1 {A B : Prop} (h : B) : if (!true) = true then A else B := iteF h
theorem go_ifn0 {A B : Prop} (h : A) : if (!false) = true then A else B := iteT h
/-! operators -/
variable {i j : Int} {m' n' : Nat}
theorem go_addN (q : Q (.int ((m' + n' : Nat) : Int)) H) : rI0 (fun i j => .int (i + j)) (.int (m' : Int)) (.int (n' : Int)) H Q := ⟨_, _, rfl, rfl, by rw [Int.natCast_add] at q; exact q⟩
theorem go_ltN (q : Q (.bl (decide (m' < n'))) H) : rI0 (fun i j => .bl (decide (i < j))) (.int (m' : Int)) (.int (n' : Int)) H Q := ⟨_, _, rfl, rfl, by show Q (.bl (decide ((m' : Int) < (n' : Int)))) H; rw [decide_eq_decide.mpr (Int.ofNat_lt (n := m') (m := n'))]; exact q⟩
theorem go_leN (q : Q (.bl (decide (m' ≤ n'))) H) : rI0 (fun i j => .bl (decide (i ≤ j))) (.int (m' : Int)) (.int (n' : Int)) H Q := ⟨_, _, rfl, rfl, by show Q (.bl (decide ((m' : Int) ≤ (n' : Int)))) H; rw [decide_eq_decide.mpr (Int.ofNat_le (m := m') (n := n'))]; exact q⟩
theorem go_gtN (q : Q (.bl (decide (n' < m'))) H) : rI0 (fun i j => .bl (decide (j < i))) (.int (m' : Int)) (.int (n' : Int)) H Q := ⟨_, _, rfl, rfl, by show Q (.bl (decide ((n' : Int) < (m' : Int)))) H; rw [decide_eq_decide.mpr (Int.ofNat_lt (n := n') (m := m'))]; exact q⟩
theorem go_geN (q : Q (.bl (decide (n' ≤ m'))) H) : rI0 (fun i j => .bl (decide (j ≤ i))) (.int (m' : Int)) (.int (n' : Int)) H Q := ⟨_, _, rfl, rfl, by show Q (.bl (decide ((n' : Int) ≤ (m' : Int)))) H; rw [decide_eq_decide.mpr (Int.ofNat_le (m := n') (n := m'))]; exact q⟩
theorem go_rI0 {g : Int → Int → V} (q : Q (g i j) H) : rI0 g (.int i) (.int j) H Q := ⟨i, j, rfl, rfl, q⟩
theorem go_mulN (h : m' < 2 ^ 63 ∨ n' < 2 ^ 63) (q : Q (.int ((m' * n' : Nat) : Int)) H) : rI CMul (fun i j => .int (i * j)) (.int (m' : Int)) (.int (n' : Int)) H Q :=
  ⟨_, _, rfl, rfl, by rcases h with h | h; exact .inl ⟨by omega, by omega⟩; exact .inr ⟨by omega, by omega⟩, by rw [Int.natCast_mul] at q; exact q⟩
theorem go_modN (h : 0 < n') (q : Q (.int ((m' % n' : Nat) : Int)) H) : rI (fun _ j => 0 < j) (fun i j => .int (i % j)) (.int (m' : Int)) (.int (n' : Int)) H Q :=
  ⟨_, _, rfl, rfl, by show (0 : Int) < (n' : Int); omega, by rw [Int.natCast_emod] at q; exact q⟩
theorem go_divN (h : 0 < n' ∧ n' < 1073741824) (q : Q (.int ((m' / n' : Nat) : Int)) H) : rI CDiv (fun i j => .int (i / j)) (.int (m' : Int)) (.int (n' : Int)) H Q :=
  ⟨_, _, rfl, rfl, ⟨by omega, by omega⟩, by rw [Int.natCast_ediv] at q; exact q⟩
theorem go_subN (h : n' ≤ m') (q : Q (.int ((m' - n' : Nat) : Int)) H) : rI0 (fun i j => .int (i - j)) (.int (m' : Int)) (.int (n' : Int)) H Q := ⟨_, _, rfl, rfl, by rw [Int.ofNat_sub h] at q; exact q⟩
theorem go_rI {Cd : Int → Int → Prop} {g : Int → Int → V} (h : Cd i j) (q : Q (g i j) H) : rI Cd g (.int i) (.int j) H Q := ⟨i, j, rfl, rfl, h, q⟩
theorem go_rU {g : Int → V} (q : Q (g i) H) : rU g (.int i) H Q := ⟨i, rfl, q⟩
theorem go_eqN (q : Q (.bl (decide (m' = n'))) H) : rEq (.int (m' : Int)) (.int (n' : Int)) H Q := ⟨rfl, by rw [decide_eq_decide.mpr (show V.int (m' : Int) = V.int (n' : Int) ↔ m' = n' by rw [V.int.injEq]; exact Int.ofNat_inj)]; exact q⟩
theorem go_neN (q : Q (.bl (!decide (m' = n'))) H) : rNe (.int (m' : Int)) (.int (n' : Int)) H Q := ⟨rfl, by rw [decide_eq_decide.mpr (show V.int (m' : Int) = V.int (n' : Int) ↔ m' = n' by rw [V.int.injEq]; exact Int.ofNat_inj)]; exact q⟩
theorem go_eqI (q : Q (.bl (decide (i = j))) H) : rEq (.int i) (.int j) H Q := ⟨rfl, by rw [decide_eq_decide.mpr (show V.int i = V.int j ↔ i = j by rw [V.int.injEq])]; exact q⟩
theorem go_neI (q : Q (.bl (!decide (i = j))) H) : rNe (.int i) (.int j) H Q := ⟨rfl, by rw [decide_eq_decide.mpr (show V.int i = V.int j ↔ i = j by rw [V.int.injEq])]; exact q⟩
theorem go_ixt (h : SqT K H p xs) (e : atI xs i = some v) (q : Q v H) : rIxT K (.ref p) (.int i) H Q := ⟨p, xs, i, v, rfl, rfl, h, e, q⟩
theorem go_ixl (h : SqL K H p xs) (e : atI xs i = some v) (q : Q v H) : rIxL K (.ref p) (.int i) H Q := ⟨p, xs, i, v, rfl, rfl, h, e, q⟩
theorem go_lent (h : SqT K H p xs) (q : Q (.int (xs.length : Int)) H) : rLenSeq K [.ref p] H Q := ⟨p, xs, rfl, .inr h, q⟩
theorem go_lenl (h : SqL K H p xs) (q : Q (.int (xs.length : Int)) H) : rLenSeq K [.ref p] H Q := ⟨p, xs, rfl, .inl h, q⟩
theorem go_lstof (h : SqL K H p xs ∨ SqT K H p xs) (q : ∀ l H', H l = none → Same H H' → H' l = some (.lst xs) → Q (.ref l) H') : rListOf K [.ref p] H Q := ⟨p, xs, rfl, h, fun l hl => q l _ hl (same_new hl) upd_same⟩
theorem go_tupofl (h : SqL K H p xs) (q : ∀ l H', H l = none → Same H H' → H' l = some (.tup xs) → Q (.ref l) H') : rTupOf K [.ref p] H Q := ⟨p, xs, rfl, .inl ⟨h, fun l hl => q l _ hl (same_new hl) upd_same⟩⟩
theorem go_eqD {d e : PyData} (h1 : Dp K H x d) (h2 : Dp K H y e) (s1 : SeqAt.shaped d = true) (s2 : SeqAt.shaped e = true) (q : Q (.bl (PyData.eqv d e)) H) : rEqD K x y H Q := ⟨d, e, h1, h2, s1, s2, q⟩
theorem go_neD {d e : PyData} (h1 : Dp K H x d) (h2 : Dp K H y e) (s1 : SeqAt.shaped d = true) (s2 : SeqAt.shaped e = true) (q : Q (.bl (!PyData.eqv d e)) H) : rNeD K x y H Q := ⟨d, e, h1, h2, s1, s2, q⟩
theorem go_sl {rs : V → Option Int → Option Int → Hp → VK → Prop} {tl th : TO} (q : te σ H fun x H1 => tl σ H1 fun l H2 => th σ H2 fun u H3 => rs x l u H3 Q) : tSl rs te tl th σ H Q := q
theorem go_part {QO : Option Int → Hp → Prop} (q : te σ H (AsI fun i H1 => QO (some i) H1)) : tPart te σ H QO := q
theorem go_nopart {QO : Option Int → Hp → Prop} (q : QO none H) : tNoPart σ H QO := q
theorem go_sllT {k : Nat} (h : SqL K H a xs) (q : ∀ p H', H p = none → Same H H' → H' p = some (.lst (xs.take k)) → Q (.ref p) H') : rSlL K (.ref a) none (some (k : Int)) H Q := ⟨a, xs, rfl, h, fun p hp => q p _ hp (same_new hp) (by rw [upd_same, cutT])⟩
theorem go_sllD {k : Nat} (h : SqL K H a xs) (q : ∀ p H', H p = none → Same H H' → H' p = some (.lst (xs.drop k)) → Q (.ref p) H') : rSlL K (.ref a) (some (k : Int)) none H Q := ⟨a, xs, rfl, h, fun p hp => q p _ hp (same_new hp) (by rw [upd_same, cutF])⟩
theorem go_cat {ys : List V} {l l' : Addr} (h1 : H l = some (.lst xs)) (h2 : H l' = some (.lst ys)) (hz : xs.length + ys.length ≤ sizeLine) (q : ∀ p H', H p = none → Same H H' → H' p = some (.lst (xs ++ ys)) → Q (.ref p) H') : rCat (.ref l) (.ref l') H Q := ⟨l, l', xs, ys, rfl, rfl, h1, h2, hz, fun p hp => q p _ hp (same_new hp) upd_same⟩
theorem go_all {bs : List Bool} (h : SqL K H a (bs.map V.bl)) (q : Q (.bl (bs.all id)) H) : rAll K [.ref a] H Q := ⟨a, bs, rfl, h, q⟩
theorem go_any {bs : List Bool} (h : SqL K H a (bs.map V.bl)) (q : Q (.bl (bs.any id)) H) : rAny K [.ref a] H Q := ⟨a, bs, rfl, h, q⟩
/-! to a later heap -/
variable {d : PyData} {ds : List PyData} {o : HO}
theorem up_dp (s : Same H H') (h : Dp K H v d) : Dp K H' v d := h.up s
theorem up_dpa (s : Same H H') (h : DpAll K H vs ds) : DpAll K H' vs ds := h.up s
theorem up_sqt (s : Same H H') (h : SqT K H a xs) : SqT K H' a xs := Same.tup s h
theorem up_sql (s : Same H H') (h : SqL K H a xs) : SqL K H' a xs := s.seq h
theorem up_get (s : Same H H') (h : H a = some o) : H' a = some o := s _ _ h
theorem up_pot (s : Same H H') (h : Pot H a) : Pot H' a := h.same s
theorem bu_dp (s : Bu p H H') (hp : Pot H p) (hn : NL d = true) (h : Dp K H v d) : Dp K H' v d := by
  obtain ⟨ys, e⟩ := hp.lst
  exact h.bu hn s e
theorem bu_sqt (s : Bu p H H') (hp : Pot H p) (h : SqT K H a xs) : SqT K H' a xs := by
  obtain ⟨ys, e⟩ := hp.lst
  exact s.sqt e h
theorem bu_sql (s : Bu p H H') (hp : a ≠ p) (h : SqL K H a xs) : SqL K H' a xs := s.seqL hp h
theorem bu_get (s : Bu p H H') (hp : a ≠ p) (h : H a = some o) : H' a = some o := s _ _ hp h
theorem bu_gett (s : Bu p H H') (hp : Pot H p) (h : H a = some (.tup xs)) : H' a = some (.tup xs) := s _ _ (fun e => by obtain ⟨ys, z⟩ := hp.lst; rw [e, z] at h; cases h) h
theorem bu_geti {dx : Addr} {fs : List (Str × V)} (s : Bu p H H') (hp : Pot H p) (h : H a = some (.ins C dx fs)) : H' a = some (.ins C dx fs) := s _ _ (fun e => by obtain ⟨ys, z⟩ := hp.lst; rw [e, z] at h; cases h) h
theorem pot_ne (hq : H q = none) (h : Pot H p) : q ≠ p := h.ne hq
theorem up_same {H0 : Hp} (s : Same H H') (h : Same H0 H) : Same H0 H' := h.trans s
theorem up_bu {H0 : Hp} (s : Same H H') (h : Bu p H0 H) : Bu p H0 H' := h.trans (Bu.of s p)
theorem bu_bu {H0 : Hp} (s : Bu p H H') (h : Bu p H0 H) : Bu p H0 H' := h.trans s
/-! data -/
theorem d_tup (h : H a = some (.tup vs)) (hs : DpAll K H vs ds) : Dp K H (.ref a) (.tuple ds) := .tup (SqT.of h) hs
theorem d_lst (h : H a = some (.lst vs)) (hs : DpAll K H vs ds) : Dp K H (.ref a) (.list ds) := .lst (SqL.of h) hs
/-! draw and pick -/
theorem c_drawN {k : Nat} (h0 : Pot H p) (h1 : 0 < k) (h2 : k ≤ 1000000000000000000) (q : ∀ (d : Nat) (H' : Hp), d < k → Pot H' p → Bu p H H' → Q (.int d) H') : sp_draw [.ref p, .int (k : Int)] H Q E :=
  ⟨_, _, rfl, h0, by omega, by omega, fun d H' hd => q d H' (by omega)⟩
theorem c_pick {l : Addr} (h0 : Pot H p) (h1 : l ≠ p) (h2 : SqL K H l xs) (h3 : xs ≠ []) (h4 : xs.length ≤ 1000) (q : ∀ (v : V) (H' : Hp), v ∈ xs → Pot H' p → Bu p H H' → Q v H') : sp_pick K [.ref p, .ref l] H Q E := ⟨_, _, _, rfl, h0, h1, h2, h3, h4, q⟩
end
end Mv
set_option Elab.async false
set_option maxRecDepth 100000
set_option maxHeartbeats 4000000
/-! Loops and comprehensions for the steps of mvo. -/
namespace Mv
open PySem PySem.Spec PyProof.Rows L2
def ForR (g : TG) (tb : TS) (D : Ends) (σ : L2.St) : It → Hp → Prop := fun J H1 => ∃ W : Nat → Nat → L2.St → Hp → Prop, (∃ m, W 0 m σ H1) ∧ ∀ i m σ H, W i m σ H →
  (J.stop i H ∧ D.nx σ H) ∨ (J.go i H ∧ ∃ N : L2.St → Hp → Prop, (∀ σ' H', N σ' H' → ∃ m', m' < m ∧ W (i + 1) m' σ' H') ∧ ∀ x H', J.yld i H x H' → g x σ H' fun σ2 H2 => tb { D with nx := N, ct := N, bk := D.nx } σ2 H2)
def LcR (g : TG) (tt : TT) (te : TE) (vs : List Nat) (σ : L2.St) (Q : VK) : It → Hp → Prop := fun J H1 => ∀ D, H1 D = none → ∃ W : Nat → Nat → Hp → Prop, (∃ m, W 0 m (upd H1 D (.lst []))) ∧ ∀ i m H, W i m H →
  (J.stop i H ∧ Q (.ref D) H) ∨ (J.go i H ∧ ∃ Nx : Hp → Prop, (∀ H', Nx H' → ∃ m', m' < m ∧ W (i + 1) m' H') ∧ ∀ x H', J.yld i H x H' → g x (wipe σ vs) H' fun σ2 H2 => wipe σ2 vs = wipe σ vs ∧ tt σ2 H2 fun b H3 =>
    if b = true then te σ2 H3 fun y H4 => ∃ acc, H4 D = some (.lst acc) ∧ acc.length < sizeLine ∧ Nx (upd H4 D (.lst (acc ++ [y]))) else Nx H3)
def Rg1 (R : It → Hp → Prop) : List V → Hp → Prop := fun vs H1 => ∃ j : Int, vs = [.int j] ∧ -(2 ^ 62) ≤ j ∧ j < 2 ^ 62 ∧ R (Itr 0 j.toNat) H1
def Rg2 (R : It → Hp → Prop) : List V → Hp → Prop := fun vs H1 => ∃ i j : Int, vs = [.int i, .int j] ∧ (-(2 ^ 62) ≤ i ∧ i < 2 ^ 62 ∧ -(2 ^ 62) ≤ j ∧ j < 2 ^ 62) ∧ R (Itr i (j - i).toNat) H1
def LsR (K : PySem.W.Frag) (R : It → Hp → Prop) : VK := fun x H1 => ∃ a, x = .ref a ∧ (∃ xs, SqL K H1 a xs) ∧ R (Itl K a) H1
def TpR (K : PySem.W.Frag) (R : It → Hp → Prop) : VK := fun x H1 => ∃ a, x = .ref a ∧ (∃ xs, SqT K H1 a xs) ∧ R (Itt K a) H1
def ZpR (K : PySem.W.Frag) (R : It → Hp → Prop) : List V → Hp → Prop := fun vs H1 => ∃ a b xs ys, vs = [.ref a, .ref b] ∧ ((SqL K H1 a xs ∧ SqL K H1 b ys ∧ R (Itz K a b) H1) ∨ (SqT K H1 a xs ∧ SqT K H1 b ys ∧ R (RZ.ItzT K a b) H1))
def EnR (K : PySem.W.Frag) (R : It → Hp → Prop) : List V → Hp → Prop := fun vs H1 => ∃ b a xs, vs = [.ref a] ∧ SqK b K H1 a xs ∧ R (IteK b K a) H1
section
variable {K : PySem.W.Frag} {σ σ' : L2.St} {H H' : Hp} {Q : VK} {n b c : L2.St → Hp → Prop} {rt : VK} {x : V} {vs : List Nat} {xs ys : List V} {te : TE} {ta : TA} {tt : TT} {tb : TS} {g : TG} {wi : TI} {a a' p : Addr} {R : It → Hp → Prop}
theorem go_for (q : wi σ H (ForR g tb ⟨n, rt, b, c⟩ σ)) : tFor wi g tb ⟨n, rt, b, c⟩ σ H := q
theorem go_lc (q : wi σ H (LcR g tt te vs σ Q)) : tLc wi g tt te vs σ H Q := q
theorem go_irng1 (q : ta σ H (Rg1 R)) : iRng1 ta σ H R := q
theorem go_irng2 (q : ta σ H (Rg2 R)) : iRng2 ta σ H R := q
theorem go_ilist (q : te σ H (LsR K R)) : iList K te σ H R := q
theorem go_itup (q : te σ H (TpR K R)) : iTup K te σ H R := q
theorem go_izip (q : ta σ H (ZpR K R)) : RZ.iZipA K ta σ H R := q
theorem go_ienum (q : ta σ H (EnR K R)) : iEnumA K ta σ H R := q
theorem go_rg1 {k : Nat} (h : k < 2 ^ 62) (q : R (Itr 0 k) H) : Rg1 R [.int (k : Int)] H := ⟨k, rfl, by omega, by omega, by rw [Int.toNat_natCast]; exact q⟩
theorem go_rg2 {k j : Nat} (h : k < 2 ^ 62) (h2 : j < 2 ^ 62) (q : R (Itr (k : Int) (j - k)) H) : Rg2 R [.int (k : Int), .int (j : Int)] H := ⟨k, j, rfl, ⟨by omega, by omega, by omega, by omega⟩, by rw [show ((j : Int) - (k : Int)).toNat = j - k by omega]; exact q⟩
theorem go_lsr (h : SqL K H a xs) (q : R (Itl K a) H) : LsR K R (.ref a) H := ⟨a, rfl, ⟨_, h⟩, q⟩
theorem go_tpr (h : SqT K H a xs) (q : R (Itt K a) H) : TpR K R (.ref a) H := ⟨a, rfl, ⟨_, h⟩, q⟩
theorem go_zpr (h : SqL K H a xs) (h2 : SqL K H a' ys) (q : R (Itz K a a') H) : ZpR K R [.ref a, .ref a'] H := ⟨a, a', xs, ys, rfl, .inl ⟨h, h2, q⟩⟩
theorem go_zprT (h : SqT K H a xs) (h2 : SqT K H a' ys) (q : R (RZ.ItzT K a a') H) : ZpR K R [.ref a, .ref a'] H := ⟨a, a', xs, ys, rfl, .inr ⟨h, h2, q⟩⟩
theorem go_enrL (h : SqL K H a xs) (q : R (IteK true K a) H) : EnR K R [.ref a] H := ⟨true, a, xs, rfl, h, q⟩
theorem go_enrT (h : SqT K H a xs) (q : R (IteK false K a) H) : EnR K R [.ref a] H := ⟨false, a, xs, rfl, h, q⟩
theorem go_catA {ys : List V} (h1 : SqT K H a xs) (h2 : SqT K H a' ys) (hz : xs.length + ys.length ≤ sizeLine) (q : ∀ p H', Same H H' → SqT K H' p (xs ++ ys) → Q (.ref p) H') : rCatA K (.ref a) (.ref a') H Q := by
  refine ⟨a, a', xs, ys, rfl, rfl, h1, h2, hz, fun e => ?_, fun _ e => ?_, fun _ _ p hp => q p _ (same_new hp) (SqT.of upd_same)⟩
  · subst e; exact q a' H (Same.refl _) h2
  · subst e; exact q a H (Same.refl _) (by rw [List.append_nil]; exact h1)
theorem go_slaT {k : Nat} (h : SqT K H a xs) (q : ∀ p H', Same H H' → SqT K H' p (xs.take k) → Q (.ref p) H') : rSlA K (.ref a) none (some (k : Int)) H Q := by
  refine ⟨a, xs, rfl, h, fun e => q a H (Same.refl _) ?_, fun _ p hp => q p _ (same_new hp) (SqT.of (by rw [upd_same, cutT]))⟩
  rw [HT.sIx_nat] at e
  rw [List.take_of_length_le (by omega)]
  exact h
theorem go_slaD {k : Nat} (h : SqT K H a xs) (q : ∀ p H', Same H H' → SqT K H' p (xs.drop k) → Q (.ref p) H') : rSlA K (.ref a) (some (k : Int)) none H Q := by
  refine ⟨a, xs, rfl, h, fun e => q a H (Same.refl _) ?_, fun _ p hp => q p _ (same_new hp) (SqT.of (by rw [upd_same, cutF]))⟩
  rw [HT.sIx_nat] at e
  by_cases z : k = 0
  · subst z; exact h
  · have : xs = [] := List.eq_nil_of_length_eq_zero (by omega)
    subst this
    simpa using h
/-! for -/
theorem forRange {k : Nat} (Pv : Nat → L2.St → Hp → Prop) (h0 : Pv 0 σ H) (hs : ∀ (i : Nat) σ H, i < k → Pv i σ H → g (.int (i : Int)) σ H fun σ2 H2 => tb ⟨Pv (i + 1), rt, n, Pv (i + 1)⟩ σ2 H2) (hd : ∀ σ H, Pv k σ H → n σ H) : ForR g tb ⟨n, rt, b, c⟩ σ (Itr 0 k) H :=
  for_it (D := ⟨n, rt, b, c⟩) walk_range Pv h0 (fun _ _ _ _ _ => trivial) (fun i x σ H H' hi hp hy => by
    obtain ⟨rfl, rfl⟩ := hy
    have := hs i σ H' hi hp
    rw [← Int.zero_add (i : Int)] at this
    exact this) hd
theorem forRange2 {k : Nat} {lo : Nat} (Pv : Nat → L2.St → Hp → Prop) (h0 : Pv 0 σ H) (hs : ∀ (i : Nat) σ H, i < k → Pv i σ H → g (.int ((lo + i : Nat) : Int)) σ H fun σ2 H2 => tb ⟨Pv (i + 1), rt, n, Pv (i + 1)⟩ σ2 H2) (hd : ∀ σ H, Pv k σ H → n σ H) : ForR g tb ⟨n, rt, b, c⟩ σ (Itr (lo : Int) k) H :=
  for_it (D := ⟨n, rt, b, c⟩) walk_range Pv h0 (fun _ _ _ _ _ => trivial) (fun i x σ H H' hi hp hy => by
    obtain ⟨rfl, rfl⟩ := hy
    have := hs i σ H' hi hp
    rw [Int.natCast_add] at this
    exact this) hd
theorem forList (Pv : Nat → L2.St → Hp → Prop) (h0 : Pv 0 σ H) (hG : ∀ i σ H, Pv i σ H → SqL K H a xs) (hs : ∀ (i : Nat) x σ H, i < xs.length → xs[i]? = some x → Pv i σ H → g x σ H fun σ2 H2 => tb ⟨Pv (i + 1), rt, n, Pv (i + 1)⟩ σ2 H2) (hd : ∀ σ H, Pv xs.length σ H → n σ H) :
    ForR g tb ⟨n, rt, b, c⟩ σ (Itl K a) H :=
  for_it (D := ⟨n, rt, b, c⟩) walk_list Pv h0 (fun i σ H _ h => hG i σ H h) (fun i x σ H H' hi hp hy => by
    obtain ⟨rfl, hx⟩ := hy
    exact hs i x σ H' hi hx hp) hd
theorem forTup (Pv : Nat → L2.St → Hp → Prop) (h0 : Pv 0 σ H) (hG : ∀ i σ H, Pv i σ H → SqT K H a xs) (hs : ∀ (i : Nat) x σ H, i < xs.length → xs[i]? = some x → Pv i σ H → g x σ H fun σ2 H2 => tb ⟨Pv (i + 1), rt, n, Pv (i + 1)⟩ σ2 H2) (hd : ∀ σ H, Pv xs.length σ H → n σ H) :
    ForR g tb ⟨n, rt, b, c⟩ σ (Itt K a) H :=
  for_it (D := ⟨n, rt, b, c⟩) walk_tup Pv h0 (fun i σ H _ h => hG i σ H h) (fun i x σ H H' hi hp hy => by
    obtain ⟨rfl, hx⟩ := hy
    exact hs i x σ H' hi hx hp) hd
theorem forZip {k : Nat} (hk : k = min xs.length ys.length) (Pv : Nat → L2.St → Hp → Prop) (h0 : Pv 0 σ H) (hG : ∀ i σ H, Pv i σ H → SqL K H a xs ∧ SqL K H a' ys)
    (hs : ∀ (i : Nat) x y T σ H H', i < k → xs[i]? = some x → ys[i]? = some y → Pv i σ H → H T = none → Same H H' → H' T = some (.tup [x, y]) → g (.ref T) σ H' fun σ2 H2 => tb ⟨Pv (i + 1), rt, n, Pv (i + 1)⟩ σ2 H2) (hd : ∀ σ H, Pv k σ H → n σ H) :
    ForR g tb ⟨n, rt, b, c⟩ σ (Itz K a a') H :=
  for_it (D := ⟨n, rt, b, c⟩) (walk_zip hk) Pv h0 (fun i σ H _ h => hG i σ H h) (fun i x σ H H' hi hp hy => by
    obtain ⟨T, x', y', rfl, hT, rfl, hx, hy⟩ := hy
    exact hs i x' y' T σ H _ hi hx hy hp hT (same_new hT) upd_same) hd
/-! while -/
def WhK (Pv : Nat → L2.St → Hp → Prop) (m : Nat) (tb : TS) (n : L2.St → Hp → Prop) (rt : VK) (σ : L2.St) : Bool → Hp → Prop := fun b H1 => if b = true then ∃ N : L2.St → Hp → Prop, (∀ σ' H', N σ' H' → ∃ m', m' < m ∧ Pv m' σ' H') ∧ tb ⟨N, rt, n, N⟩ σ H1 else n σ H1
theorem whileN (Pv : Nat → L2.St → Hp → Prop) (m0 : Nat) (h0 : Pv m0 σ H) (hs : ∀ m σ H, Pv m σ H → tt σ H (WhK Pv m tb n rt σ)) : tWhile tt tb ⟨n, rt, b, c⟩ σ H := ⟨Pv, ⟨m0, h0⟩, hs⟩
theorem wh_t {Pv : Nat → L2.St → Hp → Prop} {m : Nat} (q : tb ⟨fun s h => ∃ m', m' < m ∧ Pv m' s h, rt, n, fun s h => ∃ m', m' < m ∧ Pv m' s h⟩ σ H) : WhK Pv m tb n rt σ true H := by
  unfold WhK
  rw [if_pos rfl]
  exact ⟨_, fun _ _ h => h, q⟩
theorem wh_f {Pv : Nat → L2.St → Hp → Prop} {m : Nat} (q : n σ H) : WhK Pv m tb n rt σ false H := by
  unfold WhK
  rw [if_neg (by decide)]
  exact q
theorem go_rep {k : Nat} {v : V} (h : H a = some (.lst [v])) (hk : k ≤ 100000) (q : ∀ p H', H p = none → Same H H' → H' p = some (.lst (List.replicate k v)) → Q (.ref p) H') : rRep (.ref a) (.int (k : Int)) H Q := by
  refine ⟨a, k, [v], rfl, rfl, h, by omega, by omega, by simp; unfold sizeLine; omega, fun p hp => q p _ hp (same_new hp) ?_⟩
  rw [upd_same]
  simp
/-! comprehensions of data without lists; nothing old changes -/
theorem lcGen {J : It} {k : Nat} {G : Hp → Prop} {Y : Nat → Hp → V → Hp → Prop} (w : Walk J k G Y) (f : Nat → PyData) (hz : k ≤ 100000) (hl : ∀ i, i < k → NL (f i) = true) (hG : ∀ H', Same H H' → G H')
    (hs : ∀ (i : Nat) (x : V) (H1 H2 : Hp) (Q' : VK), i < k → Same H H1 → Y i H1 x H2 → (∀ y H4, Same H1 H4 → Dp K H4 y (f i) → Q' y H4) → g x (wipe σ vs) H2 fun σ2 H3 => wipe σ2 vs = wipe σ vs ∧ te σ2 H3 Q')
    (hd : ∀ D H' ys, H D = none → Same H H' → H' D = some (.lst ys) → DpAll K H' ys ((List.range k).map f) → Q (.ref D) H') (hg : ∀ x σ' H' (P Q : L2.St → Hp → Prop), (∀ σ2 H2, P σ2 H2 → Q σ2 H2) → g x σ' H' P → g x σ' H' Q) : LcR g tYes te vs σ Q J H := by
  intro D hD
  refine lc_nl (K := K) w ((List.range k).map f) (by simp) hz (NLs.of fun d hd => ?_) hD hG ?_ ?_ hg
  · obtain ⟨i, hi, rfl⟩ := List.mem_map.mp hd
    exact hl i (List.mem_range.mp hi)
  · rintro i e x H1 H2 Q' hi he s1 hy hq
    rw [List.getElem?_map, List.getElem?_range hi] at he
    obtain rfl := Option.some.inj he
    exact hs i x H1 H2 Q' hi s1 hy hq
  · rintro H1 ys s1 eD hall
    exact hd D H1 ys hD s1 eD hall
theorem lcRange {k j : Nat} (f : Nat → PyData) (hz : k ≤ 100000) (hl : ∀ i, i < k → NL (f i) = true) (hw : ∀ x, wipe ((wipe σ vs).set j (some x)) vs = wipe σ vs)
    (hs : ∀ (i : Nat) (H1 : Hp) (Q' : VK), i < k → Same H H1 → (∀ y H4, Same H1 H4 → Dp K H4 y (f i) → Q' y H4) → te ((wipe σ vs).set j (some (.int (i : Int)))) H1 Q')
    (hd : ∀ D H' ys, H D = none → Same H H' → H' D = some (.lst ys) → DpAll K H' ys ((List.range k).map f) → Q (.ref D) H') : LcR (gName j) tYes te vs σ Q (Itr 0 k) H :=
  lcGen walk_range f hz hl (fun _ _ => trivial) (fun i x H1 H2 Q' hi s1 hy hq => by
    obtain ⟨rfl, rfl⟩ := hy
    refine ⟨hw _, ?_⟩
    have := hs i _ Q' hi s1 hq
    rw [← Int.zero_add (i : Int)] at this
    exact this) hd gName_mono
theorem lcList {j : Nat} (f : Nat → PyData) (ha : SqL K H a xs) (hz : xs.length ≤ 100000) (hl : ∀ i, i < xs.length → NL (f i) = true) (hw : ∀ x, wipe ((wipe σ vs).set j (some x)) vs = wipe σ vs)
    (hs : ∀ (i : Nat) (x : V) (H1 : Hp) (Q' : VK), i < xs.length → xs[i]? = some x → Same H H1 → (∀ y H4, Same H1 H4 → Dp K H4 y (f i) → Q' y H4) → te ((wipe σ vs).set j (some x)) H1 Q')
    (hd : ∀ D H' ys, H D = none → Same H H' → H' D = some (.lst ys) → DpAll K H' ys ((List.range xs.length).map f) → Q (.ref D) H') : LcR (gName j) tYes te vs σ Q (Itl K a) H :=
  lcGen walk_list f hz hl (fun _ s => s.seq ha) (fun i x H1 H2 Q' hi s1 hy hq => by
    obtain ⟨rfl, hx⟩ := hy
    exact ⟨hw _, hs i x _ Q' hi hx s1 hq⟩) hd gName_mono
theorem lcTup {j : Nat} (f : Nat → PyData) (ha : SqT K H a xs) (hz : xs.length ≤ 100000) (hl : ∀ i, i < xs.length → NL (f i) = true) (hw : ∀ x, wipe ((wipe σ vs).set j (some x)) vs = wipe σ vs)
    (hs : ∀ (i : Nat) (x : V) (H1 : Hp) (Q' : VK), i < xs.length → xs[i]? = some x → Same H H1 → (∀ y H4, Same H1 H4 → Dp K H4 y (f i) → Q' y H4) → te ((wipe σ vs).set j (some x)) H1 Q')
    (hd : ∀ D H' ys, H D = none → Same H H' → H' D = some (.lst ys) → DpAll K H' ys ((List.range xs.length).map f) → Q (.ref D) H') : LcR (gName j) tYes te vs σ Q (Itt K a) H :=
  lcGen walk_tup f hz hl (fun _ s => Same.tup s ha) (fun i x H1 H2 Q' hi s1 hy hq => by
    obtain ⟨rfl, hx⟩ := hy
    exact ⟨hw _, hs i x _ Q' hi hx s1 hq⟩) hd gName_mono
/-- all [..] where each is true: the list of trues -/
theorem trues {k : Nat} {ys : List V} (h : DpAll K H ys ((List.range k).map fun _ => PyData.bool true)) : ys = (List.replicate k true).map V.bl :=
  DpAll.boolsE (K := K) (H := H) (by rw [List.map_const', List.length_range] at h; rw [List.map_replicate]; exact h)
theorem trues_all (k : Nat) : (List.replicate k true).all id = true := by simp
theorem DpAll.nth {ys : List V} {k i : Nat} {f : Nat → PyData} (h : DpAll K H ys ((List.range k).map f)) (hi : i < k) : ∃ y, ys[i]? = some y ∧ Dp K H y (f i) := h.got (by rw [List.getElem?_map, List.getElem?_range hi]; rfl)
/-! with draws: all but the pot is kept; what is made is data that is Pd -/
theorem Pot.upd {D : Addr} {o : HO} (h : Pot H p) (hD : D ≠ p) : Pot (upd H D o) p := by
  obtain ⟨x, y, e, r⟩ := h.ex
  exact ⟨x, y, by rw [upd_ne (Ne.symm hD)]; exact e, r⟩
theorem lcBu {k j : Nat} (Pd : Nat → PyData → Prop) (hp : Pot H p) (hz : k ≤ 100000) (hw : ∀ x, wipe ((wipe σ vs).set j (some x)) vs = wipe σ vs)
    (hs : ∀ (i : Nat) (H1 : Hp) (Q' : VK), i < k → Pot H1 p → Bu p H H1 → (∀ y d H4, Bu p H1 H4 → Pot H4 p → NL d = true → Pd i d → Dp K H4 y d → Q' y H4) → te ((wipe σ vs).set j (some (.int (i : Int)))) H1 Q')
    (hd : ∀ D H' ys ds, H D = none → D ≠ p → Bu p H H' → Pot H' p → H' D = some (.lst ys) → ds.length = k → (∀ (i : Nat) d, ds[i]? = some d → NL d = true ∧ Pd i d) → DpAll K H' ys ds → Q (.ref D) H') : LcR (gName j) tYes te vs σ Q (Itr 0 k) H := by
  intro D hD
  have hne : D ≠ p := hp.ne hD
  refine lc_it walk_range (fun i H' => Bu p H H' ∧ Pot H' p ∧ ∃ ys ds, H' D = some (.lst ys) ∧ ds.length = i ∧ (∀ (i : Nat) d, ds[i]? = some d → NL d = true ∧ Pd i d) ∧ DpAll K H' ys ds) ⟨Bu.new hD, hp.upd hne, [], [], upd_same, rfl, fun i d h => by simp at h, .nil⟩ (fun _ _ _ _ => trivial) ?_ ?_
  · rintro i x H1 H2 hi ⟨b1, p1, ys, ds, eD, hlen, hds, hall⟩ ⟨rfl, rfl⟩
    refine ⟨hw _, ?_⟩
    show te ((wipe σ vs).set j (some (.int ((0 : Int) + (i : Int))))) _ _
    rw [Int.zero_add]
    refine hs i _ _ hi p1 b1 fun y d H4 b4 p4 hnl hpd hdp => ?_
    have e4 := b4 _ _ hne eD
    obtain ⟨zs, ez⟩ := p1.lst
    have nl : NLs ds = true := NLs.of fun d hd => by
      obtain ⟨i, hi⟩ := List.getElem?_of_mem hd
      exact (hds i d hi).1
    refine ⟨ys, e4, ?_, ?_, p4.upd hne, ys ++ [y], ds ++ [d], upd_same, by simp [hlen], ?_, ?_⟩
    · rw [hall.len, hlen]; unfold sizeLine; omega
    · intro b o nb e
      rw [upd_ne (ne_of_none e hD)]
      exact (b1.trans b4) b o nb e
    · intro i' d' h'
      rcases Nat.lt_trichotomy i' ds.length with z | z | z
      · rw [List.getElem?_append_left z] at h'
        exact hds i' d' h'
      · subst z
        rw [List.getElem?_append_right (Nat.le_refl _), Nat.sub_self] at h'
        obtain rfl := Option.some.inj h'
        rw [hlen]
        exact ⟨hnl, hpd⟩
      · rw [List.getElem?_eq_none (by simp; omega)] at h'
        cases h'
    · exact ((hall.bu nl b4 ez).bu nl Bu.set e4).app (.cons (hdp.bu hnl Bu.set e4) .nil)
  · rintro H1 ⟨b1, p1, ys, ds, eD, hlen, hds, hall⟩
    exact hd D H1 ys ds hD hne b1 p1 eD hlen hds hall
theorem lcBuL {j : Nat} (Pd : Nat → PyData → Prop) (hp : Pot H p) (ha : H a = some (.lst xs)) (hap : a ≠ p) (hz : xs.length ≤ 100000) (hw : ∀ x, wipe ((wipe σ vs).set j (some x)) vs = wipe σ vs)
    (hs : ∀ (i : Nat) (x : V) (H1 : Hp) (Q' : VK), i < xs.length → xs[i]? = some x → Pot H1 p → Bu p H H1 → (∀ y d H4, Bu p H1 H4 → Pot H4 p → NL d = true → Pd i d → Dp K H4 y d → Q' y H4) → te ((wipe σ vs).set j (some x)) H1 Q')
    (hd : ∀ D H' ys ds, H D = none → D ≠ p → Bu p H H' → Pot H' p → H' D = some (.lst ys) → ds.length = xs.length → (∀ (i : Nat) d, ds[i]? = some d → NL d = true ∧ Pd i d) → DpAll K H' ys ds → Q (.ref D) H') : LcR (gName j) tYes te vs σ Q (Itl K a) H := by
  intro D hD
  have hne : D ≠ p := hp.ne hD
  refine lc_it walk_list (fun i H' => Bu p H H' ∧ Pot H' p ∧ ∃ ys ds, H' D = some (.lst ys) ∧ ds.length = i ∧ (∀ (i : Nat) d, ds[i]? = some d → NL d = true ∧ Pd i d) ∧ DpAll K H' ys ds) ⟨Bu.new hD, hp.upd hne, [], [], upd_same, rfl, fun i d h => by simp at h, .nil⟩ (fun i H' _ h => SqL.of (h.1 _ _ hap ha)) ?_ ?_
  · rintro i x H1 H2 hi ⟨b1, p1, ys, ds, eD, hlen, hds, hall⟩ ⟨rfl, hx⟩
    refine ⟨hw _, ?_⟩
    show te ((wipe σ vs).set j (some x)) _ _
    refine hs i x _ _ hi hx p1 b1 fun y d H4 b4 p4 hnl hpd hdp => ?_
    have e4 := b4 _ _ hne eD
    obtain ⟨zs, ez⟩ := p1.lst
    have nl : NLs ds = true := NLs.of fun d hd => by
      obtain ⟨i, hi⟩ := List.getElem?_of_mem hd
      exact (hds i d hi).1
    refine ⟨ys, e4, ?_, ?_, p4.upd hne, ys ++ [y], ds ++ [d], upd_same, by simp [hlen], ?_, ?_⟩
    · rw [hall.len, hlen]; unfold sizeLine; omega
    · intro b o nb e
      rw [upd_ne (ne_of_none e hD)]
      exact (b1.trans b4) b o nb e
    · intro i' d' h'
      rcases Nat.lt_trichotomy i' ds.length with z | z | z
      · rw [List.getElem?_append_left z] at h'
        exact hds i' d' h'
      · subst z
        rw [List.getElem?_append_right (Nat.le_refl _), Nat.sub_self] at h'
        obtain rfl := Option.some.inj h'
        rw [hlen]
        exact ⟨hnl, hpd⟩
      · rw [List.getElem?_eq_none (by simp; omega)] at h'
        cases h'
    · exact ((hall.bu nl b4 ez).bu nl Bu.set e4).app (.cons (hdp.bu hnl Bu.set e4) .nil)
  · rintro H1 ⟨b1, p1, ys, ds, eD, hlen, hds, hall⟩
    exact hd D H1 ys ds hD hne b1 p1 eD hlen hds hall
end
end Mv
set_option Elab.async false
set_option maxRecDepth 100000
set_option maxHeartbeats 4000000
/-! An instance that changes: its fields are stored, all else is kept. -/
namespace Mv
open PySem PySem.Spec PyProof.Rows L2
/-- the instance at a, of k fields, changes; all else is kept -/
def Mi (a : Addr) (k : Nat) (H H' : Hp) : Prop := (∃ C dx fs, H a = some (.ins C dx fs) ∧ fs.length = k) ∧ Bu a H H'
def SfR (K : PySem.W.Frag) (f : Str) (y : V) (n : L2.St → Hp → Prop) (σ : L2.St) : VK := fun x H2 => ∃ a C dx fs, x = .ref a ∧ H2 a = some (.ins C dx fs) ∧ Cls K C ∧ NoAttr K C f ∧ fs.length < 1000 ∧ n σ (upd H2 a (.ins C dx (putF f y fs)))
section
variable {K : PySem.W.Frag} {σ : L2.St} {H H' : Hp} {Q : VK} {n b c : L2.St → Hp → Prop} {rt : VK} {x y v : V} {xs ys : List V} {ta tv te : TE} {a p q C dx : Addr} {f : Str} {fs fs' : List (Str × V)} {k : Nat} {d : PyData} {ds : List PyData} {vs : List V}
theorem ps_fld' {X : Cx} {o value : Expr} {pos pos' : Pos} (ha : PE X o ta) (hv : PE X value tv) (hs : swapsWith value (some (.Attribute o f pos')) pos.line X.env = pure false) (e : X.K = K := by (conv => lhs; whnf)) : PS X (.Assign [.Attribute o f pos'] value pos) (sFld K ta tv f) := by
  subst e
  exact ps_fld ha hv hs
theorem go_sfld (q : tv σ H fun y H1 => ta σ H1 (SfR K f y n σ)) : sFld K ta tv f ⟨n, rt, b, c⟩ σ H := q
theorem go_sfr (h : H a = some (.ins C dx fs)) (hc : Cls K C) (hn : NoAttr K C f) (hl : fs.length < 1000) (e : putF f y fs = fs') (q : ∀ H', Mi a fs.length H H' → H' a = some (.ins C dx fs') → n σ H') : SfR K f y n σ (.ref a) H :=
  ⟨a, C, dx, fs, rfl, h, hc, hn, hl, by subst e; exact q _ ⟨⟨C, dx, fs, h, rfl⟩, Bu.set⟩ upd_same⟩
theorem mi_sqt (s : Mi a k H H') (h : SqT K H p xs) : SqT K H' p xs := by
  obtain ⟨⟨C, dx, fs, e, _⟩, b⟩ := s
  rcases h with (h | ⟨o, h⟩) | h
  · exact .inl (.inl (b p _ (fun z => by rw [z, e] at h; cases h) h))
  · exact .inl (.inr ⟨o, b p _ (fun z => by rw [z, e] at h; cases h) h⟩)
  · exact .inr h
theorem mi_sql (s : Mi a k H H') (h : SqL K H p xs) : SqL K H' p xs := by
  obtain ⟨⟨C, dx, fs, e, _⟩, b⟩ := s
  rcases h with (h | ⟨o, h⟩) | h
  · exact .inl (.inl (b p _ (fun z => by rw [z, e] at h; cases h) h))
  · exact .inl (.inr ⟨o, b p _ (fun z => by rw [z, e] at h; cases h) h⟩)
  · exact .inr h
theorem mi_gett (s : Mi a k H H') (h : H p = some (.tup xs)) : H' p = some (.tup xs) := by
  obtain ⟨⟨C, dx, fs, e, _⟩, b⟩ := s
  exact b p _ (fun z => by rw [z, e] at h; cases h) h
theorem mi_getl (s : Mi a k H H') (h : H p = some (.lst xs)) : H' p = some (.lst xs) := by
  obtain ⟨⟨C, dx, fs, e, _⟩, b⟩ := s
  exact b p _ (fun z => by rw [z, e] at h; cases h) h
theorem mi_pot (s : Mi a k H H') (h : Pot H p) : Pot H' p := by
  obtain ⟨x, y, e, r⟩ := h.ex
  exact ⟨x, y, mi_getl s e, r⟩
mutual
theorem mi_dp' (s : Mi a k H H') : ∀ (d : PyData) (v : V), Dp K H v d → Dp K H' v d
  | .none, _, h => by cases h; exact .non
  | .bool b, _, h => by cases h; exact .bl b
  | .int i, _, h => by cases h; exact .int i
  | .str x, _, h => by cases h; exact .str x
  | .list ds, _, h => by
    cases h with
    | lst hs ha => exact .lst (mi_sql s hs) (mi_dpa' s ds _ ha)
  | .tuple ds, _, h => by
    cases h with
    | tup hs ha => exact .tup (mi_sqt s hs) (mi_dpa' s ds _ ha)
  | .dict _, _, h => by cases h
theorem mi_dpa' (s : Mi a k H H') : ∀ (ds : List PyData) (vs : List V), DpAll K H vs ds → DpAll K H' vs ds
  | [], _, h => by cases h; exact .nil
  | d :: ds, _, h => by
    cases h with
    | cons h1 h2 => exact .cons (mi_dp' s d _ h1) (mi_dpa' s ds _ h2)
end
theorem mi_dp (s : Mi a k H H') (h : Dp K H v d) : Dp K H' v d := mi_dp' s d v h
theorem mi_dpa (s : Mi a k H H') (h : DpAll K H vs ds) : DpAll K H' vs ds := mi_dpa' s ds vs h
theorem mi_same (s : Same H H') (h : H a = some (.ins C dx fs)) : Mi a fs.length H H' := ⟨⟨C, dx, fs, h, rfl⟩, Bu.of s a⟩
theorem mi_refl (h : H a = some (.ins C dx fs)) (hk : fs.length = k) : Mi a k H H := ⟨⟨C, dx, fs, h, hk⟩, Bu.refl _ _⟩
/-- Mi, then nothing old changes; and so on -/
theorem Mi.up {H0 : Hp} (h : Mi a k H0 H) (s : Same H H') : Mi a k H0 H' := ⟨h.1, h.2.trans (Bu.of s a)⟩
theorem up_mi {H0 : Hp} (s : Same H H') (h : Mi a k H0 H) : Mi a k H0 H' := h.up s
theorem mi_mi {H0 : Hp} {j : Nat} (s : Mi a j H H') (h : Mi a k H0 H) : Mi a k H0 H' := ⟨h.1, h.2.trans s.2⟩
theorem mi_bu {H0 : Hp} (s : Mi a k H H') (h : Bu a H0 H) : Bu a H0 H' := h.trans s.2
end
end Mv
set_option Elab.async false
set_option maxRecDepth 100000
set_option maxHeartbeats 4000000
/-! Keyword calls in another sequence, repr, is, powers: for the steps of mvo. -/
namespace Mv
open PySem PySem.Spec PyProof.Rows L2
def kSw2 {α : Type} (vs zs : List α) : List α := match vs, zs with
  | [], [a, b] => [b, a]
  | vs, zs => vs ++ zs
def kRev3 {α : Type} (vs zs : List α) : List α := match vs, zs with
  | [], [a, b, c] => [c, b, a]
  | vs, zs => vs ++ zs
def kId {α : Type} (vs zs : List α) : List α := vs ++ zs
theorem kSw2_rel {vs zs : List V} {us ws : List Value} (h1 : Vals vs us) (h2 : Vals zs ws) : Vals (kSw2 vs zs) (kSw2 us ws) := by
  cases h1 with
  | cons a b => exact Vals.append (Paired.cons a b) h2
  | nil =>
    cases h2 with
    | nil => exact .nil
    | cons a h =>
      cases h with
      | nil => exact .cons a .nil
      | cons b h =>
        cases h with
        | nil => exact .cons b (.cons a .nil)
        | cons c h => exact .cons a (.cons b (.cons c h))
theorem kRev3_rel {vs zs : List V} {us ws : List Value} (h1 : Vals vs us) (h2 : Vals zs ws) : Vals (kRev3 vs zs) (kRev3 us ws) := by
  cases h1 with
  | cons a b => exact Vals.append (Paired.cons a b) h2
  | nil =>
    cases h2 with
    | nil => exact .nil
    | cons a h =>
      cases h with
      | nil => exact .cons a .nil
      | cons b h =>
        cases h with
        | nil => exact .cons a (.cons b .nil)
        | cons c h =>
          cases h with
          | nil => exact .cons c (.cons b (.cons a .nil))
          | cons d h => exact .cons a (.cons b (.cons c (.cons d h)))
theorem kId_rel {vs zs : List V} {us ws : List Value} (h1 : Vals vs us) (h2 : Vals zs ws) : Vals (kId vs zs) (kId us ws) := h1.append h2
def KnR (m : Nat) (sp : Sp) (gV : List V → List V → List V) (pre : List V) (Q : VK) : List V → Hp → Prop := fun zs H2 => zs.length = m ∧ sp (gV pre zs) H2 Q E0
section
variable {K : PySem.W.Frag} {σ : L2.St} {H H' : Hp} {Q : VK} {x y v : V} {vs zs pre : List V} {t : TA} {ta : TE} {a C dx : Addr} {fs : List (Str × V)} {sp : Sp} {gV : List V → List V → List V} {n m : Nat} {ds : List PyData} {nm : Str}
theorem go_knr0 (q : t σ H (KnR m sp gV pre Q)) : tCallKn n m sp gV pre t σ H Q := q
theorem go_knr (hl : zs.length = m) (e : gV pre zs = vs) (q : sp vs H Q E0) : KnR m sp gV pre Q zs H := ⟨hl, by rw [e]; exact q⟩
def MkR (C : Addr) (nm : Str) (n : Nat) (sp : Sp) (gV : List V → List V → List V) (tk : TA) (σ : L2.St) (Q : VK) : VK := fun x H1 => ∃ a dx fs, x = .ref a ∧ H1 a = some (.ins C dx fs) ∧ fs.lookup nm = none ∧ tk σ H1 fun zs H2 => zs.length = n ∧ sp (gV [x] zs) H2 Q E0
theorem go_mkn (q : ta σ H (MkR C nm n sp gV t σ Q)) : tMethKn C nm n sp gV ta t σ H Q := q
theorem go_mkr (h : H a = some (.ins C dx fs)) (hm : fs.lookup nm = none) (q : t σ H (KnR n sp gV [.ref a] Q)) : MkR C nm n sp gV t σ Q (.ref a) H := ⟨a, dx, fs, rfl, h, hm, q⟩
theorem go_isiD (h : Dp K H v (.tuple ds)) (q : Q (.bl true) H) : rIsi K [v, .ty "tuple"] H Q := by
  obtain ⟨b, xs, rfl, hs, _⟩ := h.tupE
  exact ⟨_, _, _, _, true, rfl, .ty _, tyT hs, kit_ty (by decide +kernel), q⟩
theorem go_lenD (h : Dp K H v (.tuple ds)) (q : Q (.int (ds.length : Int)) H) : rLenSeq K [v] H Q := by
  obtain ⟨b, xs, rfl, hs, ha⟩ := h.tupE
  exact ⟨b, xs, rfl, .inr hs, by rw [ha.len]; exact q⟩
theorem go_isB {a b : Bool} (q : Q (.bl (decide (a = b))) H) : rIsB (.bl a) (.bl b) H Q := ⟨a, b, rfl, rfl, q⟩
theorem go_notB {a b : Bool} (q : Q (.bl (!decide (a = b))) H) : rNotB (.bl a) (.bl b) H Q := ⟨a, b, rfl, rfl, q⟩
theorem go_eqS {a b : Str} (q : Q (.bl (decide (a = b))) H) : rEq (.str a) (.str b) H Q := ⟨rfl, by rw [decide_eq_decide.mpr (show V.str a = V.str b ↔ a = b by rw [V.str.injEq])]; exact q⟩
theorem go_neS {a b : Str} (q : Q (.bl (!decide (a = b))) H) : rNe (.str a) (.str b) H Q := ⟨rfl, by rw [decide_eq_decide.mpr (show V.str a = V.str b ↔ a = b by rw [V.str.injEq])]; exact q⟩
theorem go_eqB {a b : Bool} (q : Q (.bl (decide (a = b))) H) : rEq (.bl a) (.bl b) H Q := ⟨rfl, by rw [decide_eq_decide.mpr (show V.bl a = V.bl b ↔ a = b by rw [V.bl.injEq])]; exact q⟩
theorem go_powN {m' n' : Nat} (h : n' ≤ 1000000 ∧ m' < 2 ^ 63) (q : Q (.int ((m' ^ n' : Nat) : Int)) H) : rI CPow (fun i j => .int (i ^ j.toNat)) (.int (m' : Int)) (.int (n' : Int)) H Q :=
  ⟨_, _, rfl, rfl, ⟨by omega, by omega, by rw [Int.natAbs_natCast]; omega⟩, by show Q (.int ((m' : Int) ^ ((n' : Int).toNat))) H; rw [Int.toNat_natCast]; rw [Int.natCast_pow] at q; exact q⟩
theorem call_reprD' {X : Cx} {k : Nat} (ga : GA X.A) (hr : Room k X.A) (e : X.K = K := by (conv => lhs; whnf)) : CallR X (.builtin "repr") (rReprD K) := by
  subst e
  exact call_reprD ga hr
theorem go_reprD {d : PyData} (h : Dp K H (.ref a) d) (hs : d.showable = true ∧ d.hasDict = false ∧ d.depth ≤ 60 ∧ d.shown.length ≤ sizeLine) (q : Q (.str d.shown) H) : rReprD K [.ref a] H Q := ⟨a, d, rfl, h, hs.1, hs.2.1, hs.2.2.1, hs.2.2.2, q⟩
theorem go_reprT (h : Dp K H v (.tuple ds)) (hs : (PyData.tuple ds).showable = true ∧ (PyData.tuple ds).hasDict = false ∧ (PyData.tuple ds).depth ≤ 60 ∧ (PyData.tuple ds).shown.length ≤ sizeLine) (q : Q (.str (PyData.tuple ds).shown) H) : rReprD K [v] H Q := by
  obtain ⟨b, xs, rfl, _⟩ := h.tupE
  exact go_reprD h hs q
theorem pe_revT' {X : Cx} {e : Expr} {te : TE} {k : Nat} {p1 p2 p3 pos : Pos} (he : PE X e te) (eK : X.K = K := by (conv => lhs; whnf)) : PE X (.Subscript e (.Slice none none (some (.UnaryOp .USub (.Constant (.int 1) k p1) p2)) p3) pos) (tRevT K te) := by
  subst eK
  exact pe_revT he
def RvT (K : PySem.W.Frag) (Q : VK) : VK := fun x H1 => ∃ a xs, x = .ref a ∧ SqT K H1 a xs ∧ ∀ p, H1 p = none → Q (.ref p) (upd H1 p (.tup xs.reverse))
theorem go_revt (q : ta σ H (RvT K Q)) : tRevT K ta σ H Q := q
theorem go_rvt {xs ys : List V} (h : SqT K H a xs) (e : xs.reverse = ys) (q : ∀ p H', H p = none → Same H H' → H' p = some (.tup ys) → Q (.ref p) H') : RvT K Q (.ref a) H := ⟨a, xs, rfl, h, fun p hp => q p _ hp (same_new hp) (by rw [upd_same, e])⟩
theorem pg_unl' {X : Cx} {es : List Expr} {k : Nat} {pos : Pos} {tg : TGs} (n : Nat) (h : PGs X es tg) (eK : X.K = K := by (conv => lhs; whnf)) (hc : X.calm = true := by rfl)
    (hn : (assignEach es X.env).length = n := by rfl) (hst : (assignEach es X.env).findIdx? (·.1) = none := by rfl) : PG X (.Tuple es k pos) (gUnl K n tg) := by
  subst eK
  exact pg_unl hc h hn hst
theorem go_gunl {k : Nat} {gs : TGs} {xs : List V} {QS : L2.St → Hp → Prop} (h : SqL K H a xs) (hl : xs.length = k) (q : gs xs σ H QS) : gUnl K k gs (.ref a) σ H QS := ⟨a, xs, rfl, h, hl, q⟩
theorem pi_zipA' {X : Cx} {e1 e2 : Expr} {ta : TA} {p pos tpos : Pos} {elts : List Expr} {kk : Nat} (hg : Gl X "zip") (hm : X.mg "zip" = none) (ha : PA X [e1, e2] ta) (eK : X.K = K := by (conv => lhs; whnf)) (hs : starEach [e1, e2] X.env = (false, eval e1 X.env) :: starEach [e2] X.env := by rfl) (hpl : (backTo pos (starEach [e2] X.env)).any (·.1) = false := by rfl) : PI X (.Tuple elts kk tpos) (.Call (.Name "zip" p) [e1, e2] [] pos) (RZ.iZipA K ta) := by
  subst eK
  exact RZ.pi_zipA hg hm ha hs hpl
/-- C(..) -/
def MakR (C : Addr) (sp : Sp) (dvs : List V) (E : XK) (Q : VK) : List V → Hp → Prop := fun vs H1 => ∀ x dx, H1 x = none → H1 dx = none → dx ≠ x → sp (.ref x :: (vs ++ dvs)) (upd (upd H1 dx (.own x)) x (.ins C dx [])) (fun v H2 => v = .non ∧ Q (.ref x) H2) E
theorem go_make0 {dvs : List V} {E : XK} (q : t σ H (MakR C sp dvs E Q)) : tMake C sp dvs E t σ H Q := q
/-- x op= e -/
def AugK (i : Nat) (σ : L2.St) (n : L2.St → Hp → Prop) : VK := fun z H2 => n (σ.set i (some z)) H2
theorem go_aug {i : Nat} {ti : TIp} {n' b' c' : L2.St → Hp → Prop} {rt : VK} (h : σ[i]? = some (some x)) (q : ta σ H fun y H1 => ti x y H1 (AugK i σ n')) : tAug i ta ti ⟨n', rt, b', c'⟩ σ H := ⟨x, h, q⟩
theorem go_augk {i : Nat} {σ' : L2.St} {n' : L2.St → Hp → Prop} (e : σ.set i (some x) = σ') (q : n' σ' H) : AugK i σ n' x H := by subst e; exact q
def rMn : List V → Hp → VK → Prop := fun xs H Q => ∃ i j, xs = [.int i, .int j] ∧ Q (.int (if j < i then j else i)) H
def rMx : List V → Hp → VK → Prop := fun xs H Q => ∃ i j, xs = [.int i, .int j] ∧ Q (.int (if j > i then j else i)) H
def rIn1 : List V → Hp → VK → Prop := fun xs H Q => (∃ i, xs = [.int i] ∧ Q (.int i) H) ∨ ∃ k, xs = [.bl k] ∧ Q (.int (if k then 1 else 0)) H
def rAb : List V → Hp → VK → Prop := fun xs H Q => ∃ i, xs = [.int i] ∧ Q (.int (if i < 0 then -i else i)) H
def rStI : List V → Hp → VK → Prop := fun xs H Q => ∃ i, xs = [.int i] ∧ i.natAbs.log2 < 1920 ∧ Q (.str (toString i)) H
def rLnS : List V → Hp → VK → Prop := fun xs H Q => ∃ z, xs = [.str z] ∧ z.length ≤ sizeLine ∧ Q (.int z.length) H
def rAdS : R2 := fun x y H Q => ∃ i j, x = .str i ∧ y = .str j ∧ i.length + j.length ≤ sizeLine ∧ Q (.str (i ++ j)) H
def rIsNo : R2 := fun x y H Q => y = .non ∧ Q (.bl (decide (x = .non))) H
def rNotNo : R2 := fun x y H Q => y = .non ∧ Q (.bl (!decide (x = .non))) H
theorem call_min2' {X : Cx} (hc : X.calm = true) : CallR X (.builtin "min") rMn := call_min2 hc
theorem call_max2' {X : Cx} (hc : X.calm = true) : CallR X (.builtin "max") rMx := call_max2 hc
theorem call_int1' {X : Cx} : CallR X (.type "int") rIn1 := call_int1
theorem call_abs' {X : Cx} : CallR X (.builtin "abs") rAb := call_abs
theorem call_str_int' {X : Cx} : CallR X (.type "str") rStI := call_str_int
theorem call_len_str' {X : Cx} : CallR X (.builtin "len") rLnS := call_len_str
theorem op_add_str' {X : Cx} : OpR X (binaryOp .Add) rAdS := op_add_str
theorem op_isN' {X : Cx} : OpR X (compareOp .Is) rIsNo := op_isN
theorem op_notN' {X : Cx} : OpR X (compareOp .IsNot) rNotNo := op_notN
theorem go_min2 {m' n' : Nat} (q : Q (.int ((min m' n' : Nat) : Int)) H) : rMn [V.int (m' : Int), V.int (n' : Int)] H Q := by
  refine ⟨_, _, rfl, ?_⟩
  by_cases h : n' < m'
  · rw [if_pos (by omega)]
    rw [Nat.min_eq_right (by omega)] at q
    exact q
  · rw [if_neg (by omega)]
    rw [Nat.min_eq_left (by omega)] at q
    exact q
theorem go_max2 {m' n' : Nat} (q : Q (.int ((max m' n' : Nat) : Int)) H) : rMx [V.int (m' : Int), V.int (n' : Int)] H Q := by
  refine ⟨_, _, rfl, ?_⟩
  by_cases h : n' > m'
  · rw [if_pos (by omega)]
    rw [Nat.max_eq_right (by omega)] at q
    exact q
  · rw [if_neg (by omega)]
    rw [Nat.max_eq_left (by omega)] at q
    exact q
theorem go_int1 {i : Int} (q : Q (.int i) H) : rIn1 [V.int i] H Q := .inl ⟨i, rfl, q⟩
theorem go_intB {k : Bool} (q : Q (.int (((if k then 1 else 0 : Nat)) : Int)) H) : rIn1 [V.bl k] H Q := .inr ⟨k, rfl, by cases k <;> exact q⟩
theorem go_absN {m' : Nat} (q : Q (.int (m' : Int)) H) : rAb [V.int (m' : Int)] H Q := ⟨_, rfl, by rw [if_neg (by omega)]; exact q⟩
theorem go_isN (q : Q (.bl (decide (x = .non))) H) : rIsNo x .non H Q := ⟨rfl, q⟩
theorem go_notN (q : Q (.bl (!decide (x = .non))) H) : rNotNo x .non H Q := ⟨rfl, q⟩
theorem mi_fr {H0 : Hp} {k : Nat} (s : Mi a k H H') (n : H0 a = none) (h : Same H0 H) : Same H0 H' := fun c o e => s.2 c o (fun z => by rw [z, n] at e; cases e) (h c o e)
theorem free_of {H0 : Hp} (n : H a = none) (s : Same H0 H) : H0 a = none := s.free n
theorem lg_lt {x n : Nat} (h : x < 2 ^ n) (hn : 0 < n) : x.log2 < n := by
  rcases Nat.eq_zero_or_pos x with z | z
  · subst z; exact hn
  · exact (Nat.log2_lt (by omega)).mpr h
/-- a bound for numbers that are shown -/
def bigN : Nat := 10 ^ 400
theorem shw_pair {x y : Nat} (hx : x < bigN) (hy : y < bigN) : (PyData.tuple [.int x, .int y]).showable = true ∧ (PyData.tuple [.int x, .int y]).hasDict = false ∧ (PyData.tuple [.int x, .int y]).depth ≤ 60 ∧ (PyData.tuple [.int x, .int y]).shown.length ≤ sizeLine := by
  unfold bigN at hx hy
  have l : ∀ z : Nat, z < 10 ^ 400 → z.log2 < 1920 := fun z hz => lg_lt (Nat.lt_trans hz (by decide +kernel)) (by decide)
  have s : ∀ z : Nat, z < 10 ^ 400 → (PyData.shown (.int (z : Int))).length ≤ 401 := fun z hz => by
    have e := int_text_length_le10 (a := (z : Int)) (k := 400) (by decide) (by rw [Int.natAbs_natCast]; exact hz)
    show (Str.ofString (toString (z : Int))).length ≤ 401
    rw [PySem.ofString_length]; exact e
  refine ⟨?_, rfl, by simp [PyData.depth, PyData.depthAll], ?_⟩
  · simp only [PyData.showable, PyData.showableAll, Bool.and_true, Bool.and_eq_true, decide_eq_true_eq, Int.natAbs_natCast]
    exact ⟨l x hx, l y hy⟩
  · have := PyData.shown_le 401 (by decide) (.tuple [.int (x : Int), .int (y : Int)]) (by
      simp only [PyData.leavesShort, PyData.leavesShortAll, Bool.and_true, Bool.and_eq_true, decide_eq_true_eq]
      exact ⟨s x hx, s y hy⟩)
    refine Nat.le_trans this ?_
    have w : ∀ z : Nat, z < 10 ^ 400 → PyData.weight (.int (z : Int)) ≤ 1920 := fun z hz => by
      have := l z hz
      simp only [PyData.weight, Int.natAbs_natCast]
      split <;> omega
    have w1 := w x hx
    have w2 := w y hy
    simp only [PyData.weight, PyData.weightAll] at w1 w2 ⊢
    clear hx hy
    unfold sizeLine
    omega
theorem go_reprPr {x y : Nat} (h : Dp K H v (.tuple [.int x, .int y])) (hx : x < bigN) (hy : y < bigN) (q : Q (.str (PyData.tuple [.int x, .int y]).shown) H) : rReprD K [v] H Q := go_reprT h (shw_pair hx hy) q
end
end Mv
set_option Elab.async false
set_option maxRecDepth 100000
set_option maxHeartbeats 4000000
/-! mvex: own errors: made, raised, told by several clauses `except X as e`, their fields, isinstance of them. -/
namespace Mv
open PySem PySem.Spec PyProof.Rows L2
/-- an own class of errors: over ValueError, RuntimeError, LookupError or ArithmeticError -/
structure Oex (K : PySem.W.Frag) (C : Addr) : Prop where
  ex : ∃ (B newId initId : String) (bmB : List Value), ExcBaseFacts B newId initId bmB ∧ StoreFacts B bmB "object.__setattr__" "object" ∧ PySem.W.excInitIn K C bmB newId = true ∧ PySem.W.excOver K C bmB = true
  hd : PySem.W.hasDictIn K C = true
  sa : PySem.W.findIn K (.ref C) "__setattr__" = some (some (.builtin "object.__setattr__"))
  exC : PySem.W.subIn K (.ref C) (.type "BaseException") = some true
  tyC : PySem.W.typeIn K (.ref C) = some (.type "type")
  kC : PySem.W.keepIn K (.ref C) = true
theorem oexB_ok {K : PySem.W.Frag} {C : Addr} (h : oexB K C = true) : Oex K C := by
  obtain ⟨h0, h⟩ := Bool.and_eq_true_iff.mp h
  obtain ⟨h1, h⟩ := Bool.and_eq_true_iff.mp h
  obtain ⟨h2, h⟩ := Bool.and_eq_true_iff.mp h
  obtain ⟨h3, h⟩ := Bool.and_eq_true_iff.mp h
  obtain ⟨h4, h5⟩ := Bool.and_eq_true_iff.mp h
  refine ⟨?_, h1, of_decide_eq_true h2, of_decide_eq_true h3, of_decide_eq_true h4, h5⟩
  have on : ∀ {bm : List Value} {n : String}, oexIn K C bm n = true → PySem.W.excInitIn K C bm n = true ∧ PySem.W.excOver K C bm = true := fun z => Bool.and_eq_true_iff.mp z
  rcases Bool.or_eq_true_iff.mp h0 with z | z
  · exact ⟨_, _, _, _, F.excBase_ValueError, F.store_ValueError, (on z).1, (on z).2⟩
  rcases Bool.or_eq_true_iff.mp z with z | z
  · exact ⟨_, _, _, _, F.excBase_RuntimeError, F.store_RuntimeError, (on z).1, (on z).2⟩
  rcases Bool.or_eq_true_iff.mp z with z | z
  · exact ⟨_, _, _, _, F.excBase_LookupError, F.store_LookupError, (on z).1, (on z).2⟩
  · exact ⟨_, _, _, _, F.excBase_ArithmeticError, F.store_ArithmeticError, (on z).1, (on z).2⟩
section
variable {prog : Program} {w : World} {A : Around} {R : Result → Shared → Prop} {hp : Heap} {g : Array GenState} {d : Drawn} {t : Nat} {os : OsState} {K : PySem.W.Frag} {C : Addr} {f : Str} {tk : Tok} {v : Value}
/-- the first field of an error -/
theorem exg_new {x : Addr} {fv : Array Value} (T : Oex K C) (Xk : K.In hp) (hx : hp.get? x = some { cls := .ref C, data := .fields fv }) (hno : PySem.W.findIn K (.ref C) f = some none)
    (hq : ∀ h' tk' dx, (∀ b o, b ≠ x → hp.get? b = some o → h'.get? b = some o) → hp.objs.size ≤ dx → dx ≠ x → h'.get? x = some { cls := .ref C, dict := some dx, data := .fields fv } → h'.Ns1 dx (fun y => if y = f then some v else none) → R (.ok (.ret .none)) ⟨h', g, d, tk', os⟩) :
    codeAny (model prog w) A (.call (.builtin "object.__setattr__") ⟨[.ref x, .str f tk, v], []⟩) R ⟨hp, g, d, t, os⟩ := by
  obtain ⟨B, n1, n2, bm, FB, SF, _, ov⟩ := T.ex
  obtain ⟨cd, hcd, hd1⟩ := PySem.W.any_some T.hd
  have hcls : PySem.W.Looks (model prog w) hp (classData C) cd := PySem.W.looks_clsIn Xk hcd
  have hxs : x ≠ hp.objs.size := Nat.ne_of_lt (Heap.lt_size hx)
  refine PySem.W.osa_openX (r := none) SF Xk (ox := { cls := .ref C, data := .fields fv }) (od := none) ⟨hx, rfl, rfl, trivial⟩ ov (by unfold PySem.W.takerIn; rw [hno]; rfl) fun b => ?_
  show wpAny _ _ (Builtin.ObjectAttr.storeInOwnDict (.ref x) (.ref C) (.str f tk) f v b) _ _ _
  obtain ⟨nm, bs, mro, ns, qn, hd, sn, sb, ab, col, del⟩ := cd
  dsimp only at hd1
  subst hd1
  unfold Builtin.ObjectAttr.storeInOwnDict Builtin.ObjectAttr.ownDictForStores
  repeat (first | with_reducible refine PySem.HandSPX.store_in_new ?_ ?_ | with_reducible refine wpAny_loadPart_at hx ?_ | with_reducible refine hcls.at ?_ | wp_step)
  · exact ⟨_, #[], _, (Heap.get?_update_ne _ _ _ _ hxs.symm).trans (Heap.get?_push_at rfl rfl), rfl, fun e he => absurd he (by simp), fun _ => rfl⟩
  · intro h' tk' hn' hs
    have hx1 : (hp.push { cls := .type "dict", data := .dict #[] }).get? x = some { cls := .ref C, data := .fields fv } := Heap.get?_push_of_some _ hx
    refine hq h' tk' hp.objs.size (fun b o hb ho => ?_) (Nat.le_refl _) hxs.symm ?_ hn'
    · exact (hs.2 b (Nat.ne_of_lt (Heap.lt_size ho))).trans ((Heap.get?_update_ne _ _ _ _ hb).trans (Heap.get?_push_of_some _ ho))
    · exact (hs.2 x hxs).trans (Heap.get?_update_self _ hx1 rfl)
/-- a further field -/
theorem exg_old {x dx : Addr} {fv : Array Value} {m0 : Str → Option Value} {nl : List Str} (T : Oex K C) (Xk : K.In hp) (hx : hp.get? x = some { cls := .ref C, dict := some dx, data := .fields fv }) (hns : hp.Ns1 dx m0) (hw : Within m0 nl) (hz : nl.length ≤ 1000) (hno : PySem.W.findIn K (.ref C) f = some none)
    (hq : ∀ h' tk', (∀ b o, b ≠ dx → hp.get? b = some o → h'.get? b = some o) → h'.Ns1 dx (fun y => if y = f then some v else m0 y) → R (.ok (.ret .none)) ⟨h', g, d, tk', os⟩) :
    codeAny (model prog w) A (.call (.builtin "object.__setattr__") ⟨[.ref x, .str f tk, v], []⟩) R ⟨hp, g, d, t, os⟩ := by
  obtain ⟨B, n1, n2, bm, FB, SF, _, ov⟩ := T.ex
  obtain ⟨cd, hcd, hd1⟩ := PySem.W.any_some T.hd
  have hcls : PySem.W.Looks (model prog w) hp (classData C) cd := PySem.W.looks_clsIn Xk hcd
  obtain ⟨oD, _, _, hoD, _, _⟩ := hns.count hw
  refine PySem.W.osa_openX (r := none) SF Xk (ox := { cls := .ref C, dict := some dx, data := .fields fv }) (od := some oD) ⟨hx, rfl, rfl, hoD⟩ ov (by unfold PySem.W.takerIn; rw [hno]; rfl) fun b => ?_
  show wpAny _ _ (Builtin.ObjectAttr.storeInOwnDict (.ref x) (.ref C) (.str f tk) f v b) _ _ _
  obtain ⟨nm, bs, mro, ns, qn, hd, sn, sb, ab, col, del⟩ := cd
  dsimp only at hd1
  subst hd1
  unfold Builtin.ObjectAttr.storeInOwnDict Builtin.ObjectAttr.ownDictForStores
  repeat (first | with_reducible refine PySem.OEX.store_in_old hns hw hz ?_ | with_reducible refine wpAny_loadPart_at hx ?_ | with_reducible refine hcls.at ?_ | wp_step)
  intro h' tk' hn' hs
  exact hq h' tk' (fun b o hb ho => (hs.2 b hb).trans ho) hn'
end
section
variable {X : Cx} {pins : List (Addr × Obj)} {σ : L2.St} {H : Hp} {s : Shared} {a C dx : Addr} {f : Str} {y : V} {u : Value} {fs : List (Str × V)} {Q : Unit → Shared → Prop} {E : Value → Shared → Prop} {A : Around}
/-- self.f = y, the first one -/
theorem exs_new (T : Oex X.K C) (I : Inv X pins σ H s) (e : H a = some (exo a C none)) (hno : PySem.W.findIn X.K (.ref C) f = some none) (ry : RelV y u)
    (h : ∀ dx s', H dx = none → dx ≠ a → Inv X pins σ (upd (upd H dx (exd dx [(f, y)])) a (exo a C (some dx))) s' → Q () s') : wpAny (model X.prog X.w) A (setAttr (.ref a) f u) Q E s := by
  obtain ⟨t1, ho⟩ := exo_at I.hok e
  obtain ⟨hp, g, d, t, os⟩ := s
  refine PySem.W.set_plain I.kIn (ox := { cls := .ref C, dict := none, data := .fields #[.ref t1, .none, .none, .none, .bool false, .none] }) (od := none) ⟨ho, rfl, rfl, trivial⟩ T.sa ?_
  refine exg_new T I.kIn ho hno (fun h' tk' dx k dn dne hx hn => ?_)
  have hnd : H dx = none := I.hok.fresh dn
  have nd : ∀ {b : Addr} {o : Obj}, hp.get? b = some o → b ≠ dx := fun {b o} q => Nat.ne_of_lt (Nat.lt_of_lt_of_le (Heap.lt_size q) dn)
  have na : ∀ {b : Addr}, H b = none → b ≠ a := fun {b} n z => by rw [z, e] at n; cases n
  have U : Un X.fs [] H (upd (upd H dx (exd dx [(f, y)])) a (exo a C (some dx))) hp h' := by
    constructor
    · exact fun b o q n _ _ => k b o (na n) q
    · exact fun b o q n _ _ => ⟨o.slots, k b o (na n) q⟩
    · exact fun b o q n _ => by rw [upd_ne (na n), upd_ne (nd q)]; exact n
    · intro b o q _
      by_cases hb : b = a
      · exact ⟨_, by rw [hb]; exact hx⟩
      · exact ⟨o, k b o hb q⟩
    · exact fun b xs q => by rw [upd_ne (at_ne e q exo_tup), upd_ne (ne_of_none q hnd)]; exact q
    · exact fun b o v q => by rw [upd_ne (at_ne e q exo_frz), upd_ne (ne_of_none q hnd)]; exact q
    · exact fun b ps q => ⟨#[], by rw [upd_ne (at_ne e q exo_tbl), upd_ne (ne_of_none q hnd), q]; simp⟩
  refine h dx _ hnd dne (I.un (t' := tk') U fun b o q => ?_)
  by_cases hb : b = a
  · subst hb
    rw [upd_same] at q
    cases q
    exact exo_ok hx
  · rw [upd_ne hb] at q
    by_cases hd : b = dx
    · subst hd
      rw [upd_same] at q
      cases q
      exact exd_ok hn (relO_put (fs := []) ry fun g => True.intro)
    · rw [upd_ne hd] at q
      refine (I.hok b o q).stay (fun c v hc z => k c v ?_ z) (fun c hc => by rw [upd_ne (at_ne e hc exo_own), upd_ne (ne_of_none hc hnd)]; exact hc) (fun c xs hc => by rw [upd_ne (at_ne e hc exo_tup), upd_ne (ne_of_none hc hnd)]; exact hc)
      rcases hc with hc | hc
      · rw [hc]; exact hb
      · exact at_ne e hc exo_own
/-- self.f = y, a further one -/
theorem exs_old (T : Oex X.K C) (I : Inv X pins σ H s) (e : H a = some (exo a C (some dx))) (ed : H dx = some (exd dx fs)) (hl : fs.length ≤ 900) (hno : PySem.W.findIn X.K (.ref C) f = some none) (ry : RelV y u)
    (h : ∀ s', Inv X pins σ (upd H dx (exd dx ((f, y) :: fs))) s' → Q () s') : wpAny (model X.prog X.w) A (setAttr (.ref a) f u) Q E s := by
  obtain ⟨t1, ho⟩ := exo_at I.hok e
  obtain ⟨mA, hns, rel⟩ := exd_at I.hok ed
  have hw := within_of rel
  obtain ⟨hp, g, d, t, os⟩ := s
  obtain ⟨oD, _, _, hoD, _, _⟩ := hns.count hw
  refine PySem.W.set_plain I.kIn (ox := { cls := .ref C, dict := some dx, data := .fields #[.ref t1, .none, .none, .none, .bool false, .none] }) (od := some oD) ⟨ho, rfl, rfl, hoD⟩ T.sa ?_
  refine exg_old T I.kIn ho hns hw (by rw [List.length_map]; omega) hno (fun h' tk' k hn => ?_)
  have hd : ∃ o, h'.get? dx = some o := by
    obtain ⟨o, _, _, e', _⟩ := hn
    exact ⟨o, e'⟩
  exact h _ (I.write (t' := tk') (x := dx) (e := dx) (o := exd dx ((f, y) :: fs)) (by rw [ed]; exact True.intro) (.inl rfl) k hd (exd_ok hn (relO_put ry rel)))
end
/-- self.f = e in an error's __init__ -/
def tExs (K : PySem.W.Frag) (f : Str) (to te : TE) : TS := fun D σ H => te σ H fun y H1 => to σ H1 fun x H2 => ∃ a C : Addr, x = .ref a ∧ Oex K C ∧ PySem.W.findIn K (.ref C) f = some none ∧
  ((H2 a = some (exo a C none) ∧ ∀ dx, H2 dx = none → dx ≠ a → D.nx σ (upd (upd H2 dx (exd dx [(f, y)])) a (exo a C (some dx)))) ∨
    ∃ (dx : Addr) (fs : List (Str × V)), H2 a = some (exo a C (some dx)) ∧ H2 dx = some (exd dx fs) ∧ fs.length ≤ 900 ∧ D.nx σ (upd H2 dx (exd dx ((f, y) :: fs))))
theorem ps_exs {X : Cx} {o e : Expr} {to te : TE} {f : Str} {p' pos : Pos} (ho : PE X o to) (he : PE X e te) (hs : swapsWith e (some (.Attribute o f p')) pos.line X.env = pure false := by rfl) : PS X (.Assign [.Attribute o f p'] e pos) (tExs X.K f to te) := by
  refine ⟨fun pins s σ H D I h => ?_⟩
  refine plainObj_wpAny_Assign_Attribute (thn (he.run pins s σ H _ I h) fun v s1 ⟨y, H1, I1, r1, q1⟩ => thn (ho.run pins s1 σ H1 _ I1 q1) fun u s2 ⟨x, H2, I2, r2, a, C, ex, T, hno, q⟩ => ?_) hs
  subst ex
  obtain rfl : u = Value.ref a := r2
  rcases q with ⟨ea, q⟩ | ⟨dx, fs, ea, ed, hl, q⟩
  · exact exs_new T I2 ea hno r1 fun dx s' n ne J => ⟨σ, _, J, q dx n ne⟩
  · exact exs_old T I2 ea ed hl hno r1 fun s' J => ⟨σ, _, J, q⟩
/-! ### an error is made -/
section
variable {X : Cx} {pins : List (Addr × Obj)} {σ : L2.St} {H1 : Hp} {s1 : Shared} {Q : XK} {us ds : List Value} {vs dvs : List V} {C fI : Addr} {k : Nat} {fd : FuncData} {ps : List Str} {sp : Sp}
theorem exg_call (T : Oex X.K C) (iC : PySem.W.findIn X.K (.ref C) "__init__" = some (some (.ref fI))) (tI : PySem.W.typeIn X.K (.ref fI) = some (.type "function")) (F1 : FnOk X.prog X.w X.K X.mg X.base CX0 k fI fd ps sp) (hr : Room (k + 1) X.A) (hb : Binds X.K fd ps ds) (hd : Vals dvs ds)
    (I1 : Inv X pins σ H1 s1) (r1 : Vals vs us) (hz : vs.length ≤ 1000)
    (q1 : ∀ a, H1 a = none → sp (.ref a :: (vs ++ dvs)) (upd H1 a (exo a C none)) (fun v H2 => v = .non ∧ ∃ (d : Addr) (fs : List (Str × V)), H2 a = some (exo a C (some d)) ∧ H2 d = some (exd d fs) ∧ H1 d = none ∧ Q (.ref C) (some d) (upd (del H2 a) d (.xd fs))) E0) :
    wpAny (model X.prog X.w) X.A (call (.ref C) us) (MkP X pins σ Q) X.xe s1 := by
  obtain ⟨B, n1, n2, bmB, FB, SF, ei, ov⟩ := T.ex
  obtain ⟨nm, N, qn, bs, bm, hdct, sn, sub, ab, col, dd, k0, k1, k2, k3, k5, hC, hT⟩ := PySem.W.excInit_of I1.kIn ei
  obtain ⟨hp, g, dr, tk, os⟩ := s1
  have hsz : hp.objs.size ≤ hp.objs.size + 1 := Nat.le_succ _
  have hn : H1 (hp.objs.size + 1) = none := I1.hok.fresh hsz
  have hq := q1 (hp.objs.size + 1) hn
  have kk : ∀ b o, hp.get? b = some o → ((hp.push (PySem.W.kdv_tup us)).push (PySem.HandSPX.excO C hp.objs.size)).get? b = some o := fun b o e => Heap.get?_push_of_some _ (Heap.get?_push_of_some _ e)
  have hget : ((hp.push (PySem.W.kdv_tup us)).push (PySem.HandSPX.excO C hp.objs.size)).get? (hp.objs.size + 1) = some (PySem.HandSPX.excO C hp.objs.size) := by heap_get
  have I2 := I1.laid (t' := tk) (a := hp.objs.size + 1) (o := exo (hp.objs.size + 1) C none) (h' := (hp.push (PySem.W.kdv_tup us)).push (PySem.HandSPX.excO C hp.objs.size)) kk hsz (exo_ok hget)
  have r2 : Vals (V.ref (hp.objs.size + 1) :: (vs ++ dvs)) (Value.ref (hp.objs.size + 1) :: (us ++ ds)) := .cons rfl (r1.append hd)
  have hl : (Value.ref (hp.objs.size + 1) :: us ++ ds).length = ps.length := by
    have e := r2.length
    rw [F1.len _ _ _ _ hq] at e
    exact e.symm
  have hus : us.length ≤ sizeLine := by rw [← Paired.length r1, sizeLine_eq]; omega
  refine wpAny_call (PySem.HandSPX.call_own FB hT hC (PySem.W.looks_findIn I1.kIn iC) (fun self => PySem.W.bind_fn I1.kIn self tI) hus
    (codeAny_mono (F1.run _ X.stack _ _ ⟨Value.ref (hp.objs.size + 1) :: us, []⟩ (Value.ref (hp.objs.size + 1) :: (us ++ ds)) _ _ E0 (hr.make C us []) (I2.env0.make C us []) (hb _ (Value.ref (hp.objs.size + 1) :: us) I2.kIn hl) r2 hq) fun r s' hq' => ?_))
  cases r with
  | error er => exact (show False from hq').elim
  | ok fl =>
    cases fl with
    | ret u =>
      obtain ⟨v, H2, os2, bare2, un2, hok2, rv, ev, d, fs, ea, ed, hd1, q2⟩ := hq'
      subst ev
      obtain ⟨h2, g2, d2, t2, os'⟩ := s'
      exact ⟨rv, mk_end (raises_own T.exC T.tyC) I1 hsz kk un2 hok2 os2 bare2 ea ed hd1 q2⟩
    | next => exact False.elim hq'
    | brk => exact False.elim hq'
    | cont => exact False.elim hq'
end
/-- an error's __init__ with one value, two values -/
def sp_exi1 (K : PySem.W.Frag) (f : Str) : Sp := fun vs H Q _ => ∃ (a C : Addr) (v : V), vs = [.ref a, v] ∧ Oex K C ∧ PySem.W.findIn K (.ref C) f = some none ∧ H a = some (exo a C none) ∧
  ∀ dx, H dx = none → dx ≠ a → Q .non (upd (upd H dx (exd dx [(f, v)])) a (exo a C (some dx)))
def sp_exi2 (K : PySem.W.Frag) (f g : Str) : Sp := fun vs H Q _ => ∃ (a C : Addr) (v u : V), vs = [.ref a, v, u] ∧ Oex K C ∧ PySem.W.findIn K (.ref C) f = some none ∧ PySem.W.findIn K (.ref C) g = some none ∧ H a = some (exo a C none) ∧
  ∀ dx, H dx = none → dx ≠ a → Q .non (upd (upd (upd H dx (exd dx [(f, v)])) a (exo a C (some dx))) dx (exd dx [(g, u), (f, v)]))
/-- what stands of a class of errors: x its name, C its address -/
structure ExK (K : PySem.W.Frag) (mg : Str → Option Value) (x : Str) (C : Addr) : Prop where
  T : Oex K C
  g : mg x = some (.ref C)
  xf : L2.XfC K C
  is : L2.ExcC K C
/-- an error with one field, made by its name -/
structure Ex1 (P : Program) (w : World) (K : PySem.W.Frag) (mg : Str → Option Value) (base : Heap) (x : Str) (C : Addr) (f : Str) : Prop where
  k : ExK K mg x C
  no : PySem.W.findIn K (.ref C) f = some none
  init : ∃ (fI : Addr) (fd : FuncData) (ps : List Str), FnOk P w K mg base CX0 1 fI fd ps (sp_exi1 K f) ∧ PySem.W.findIn K (.ref C) "__init__" = some (some (.ref fI)) ∧ PySem.W.typeIn K (.ref fI) = some (.type "function") ∧ Binds K fd ps []
structure Ex2 (P : Program) (w : World) (K : PySem.W.Frag) (mg : Str → Option Value) (base : Heap) (x : Str) (C : Addr) (f g : Str) : Prop where
  k : ExK K mg x C
  no : PySem.W.findIn K (.ref C) f = some none
  no2 : PySem.W.findIn K (.ref C) g = some none
  init : ∃ (fI : Addr) (fd : FuncData) (ps : List Str), FnOk P w K mg base CX0 1 fI fd ps (sp_exi2 K f g) ∧ PySem.W.findIn K (.ref C) "__init__" = some (some (.ref fI)) ∧ PySem.W.typeIn K (.ref fI) = some (.type "function") ∧ Binds K fd ps []
def Rs1 (C : Addr) (f : Str) (W : WX) (σ : L2.St) : List V → Hp → Prop := fun vs H1 => ∃ v, vs = [v] ∧ ∀ d H', H1 d = none → Same H1 H' → H' d = some (.xd [(f, v)]) → W (.ref C) (some d) σ H'
def Rs2 (C : Addr) (f g : Str) (W : WX) (σ : L2.St) : List V → Hp → Prop := fun vs H1 => ∃ v u, vs = [v, u] ∧ ∀ d H', H1 d = none → Same H1 H' → H' d = some (.xd [(g, u), (f, v)]) → W (.ref C) (some d) σ H'
def tRs1 (C : Addr) (f : Str) (W : WX) (ta : TA) : TS := fun _ σ H => ta σ H (Rs1 C f W σ)
def tRs2 (C : Addr) (f g : Str) (W : WX) (ta : TA) : TS := fun _ σ H => ta σ H (Rs2 C f g W σ)
/-- the heap behind the making: only the error's dict is new -/
theorem exh_same {H : Hp} {a C dx : Addr} {fs : List (Str × V)} {G : Hp} (ha : H a = none) (hd : H dx = none) (hG : ∀ b, b ≠ a → b ≠ dx → G b = H b) : Same H (upd (del G a) dx (.xd fs)) := fun b o e => by
  rw [upd_ne (ne_of_none e hd), del_ne (ne_of_none e ha), hG b (ne_of_none e ha) (ne_of_none e hd)]
  exact e
section
variable {X : Cx} {x f g : Str} {C : Addr} {j : Nat} {e e2 : Expr} {ta : TA} {W : WX} {p pos pos2 : Pos}
theorem pmk_ex1 {Qt : L2.St → XK} (c : Ex1 X.prog X.w X.K X.mg X.base x C f) (hr : Room j X.A) (hk : 2 ≤ j) (hg : Gl X x) (ha : PA X [e] ta)
    (hdb : (x == ("__debug__" : Str)) = false := by decide) (he : starEach (e :: []) X.env = (false, eval e X.env) :: starEach [] X.env := by rfl) (hpl : (backTo pos (starEach [] X.env)).any (·.1) = false := by rfl) :
    PMk X (.Call (.Name x p) [e] [] pos) (fun σ H Q => ta σ H (Rs1 C f (fun cls d _ H' => Q cls d H') σ)) := by
  intro pins s σ H Q I h
  obtain ⟨fI, fd, ps, F1, iC, tI, b⟩ := c.init
  have T := c.k.T
  refine wpAny_Call_Name_kw (ld_glob I hg c.k.g ?_ hdb)
  refine PySem.W.callWith_K (h₀ := X.base) I.ok.mod.kin T.kC (thn (ha.run pos pins s σ H _ I h) fun us s1 ⟨vs, H1, I1, r1, v, ev, q1⟩ => ⟨I1.kIn, ?_⟩) he hpl
  subst ev
  refine exg_call (vs := [v]) (dvs := []) T iC tI F1 (hr.mono hk) b .nil I1 r1 (by show 1 ≤ 1000; decide) fun a na => ?_
  refine ⟨a, C, v, rfl, T, c.no, upd_same, fun dx nx ne => ⟨rfl, dx, [(f, v)], upd_same, ?_, ?_, ?_⟩⟩
  · rw [upd_ne ne, upd_same]
  · rw [upd_ne ne] at nx
    exact nx
  · rw [upd_ne ne] at nx
    exact q1 dx _ nx (exh_same (C := C) na nx fun b h1 h2 => by rw [upd_ne h1, upd_ne h2, upd_ne h1]) upd_same
theorem pmk_ex2 {Qt : L2.St → XK} (c : Ex2 X.prog X.w X.K X.mg X.base x C f g) (hr : Room j X.A) (hk : 2 ≤ j) (hg : Gl X x) (ha : PA X [e, e2] ta)
    (hdb : (x == ("__debug__" : Str)) = false := by decide) (he : starEach (e :: [e2]) X.env = (false, eval e X.env) :: starEach [e2] X.env := by rfl) (hpl : (backTo pos (starEach [e2] X.env)).any (·.1) = false := by rfl) :
    PMk X (.Call (.Name x p) [e, e2] [] pos) (fun σ H Q => ta σ H (Rs2 C f g (fun cls d _ H' => Q cls d H') σ)) := by
  intro pins s σ H Q I h
  obtain ⟨fI, fd, ps, F1, iC, tI, b⟩ := c.init
  have T := c.k.T
  refine wpAny_Call_Name_kw (ld_glob I hg c.k.g ?_ hdb)
  refine PySem.W.callWith_K (h₀ := X.base) I.ok.mod.kin T.kC (thn (ha.run pos pins s σ H _ I h) fun us s1 ⟨vs, H1, I1, r1, v, u, ev, q1⟩ => ⟨I1.kIn, ?_⟩) he hpl
  subst ev
  refine exg_call (vs := [v, u]) (dvs := []) T iC tI F1 (hr.mono hk) b .nil I1 r1 (by show 2 ≤ 1000; decide) fun a na => ?_
  refine ⟨a, C, v, u, rfl, T, c.no, c.no2, upd_same, fun dx nx ne => ⟨rfl, dx, [(g, u), (f, v)], ?_, upd_same, ?_, ?_⟩⟩
  · rw [upd_ne (Ne.symm ne), upd_same]
  · rw [upd_ne ne] at nx
    exact nx
  · rw [upd_ne ne] at nx
    exact q1 dx _ nx (exh_same (C := C) na nx fun b h1 h2 => by rw [upd_ne h2, upd_ne h1, upd_ne h2, upd_ne h1]) upd_same
theorem ps_raise1 (c : Ex1 X.prog X.w X.K X.mg X.base x C f) (hr : Room j X.A) (hk : 2 ≤ j) (hc : X.calm = true) (tk : Takes X W) (hg : Gl X x) (ha : PA X [e] ta)
    (hdb : (x == ("__debug__" : Str)) = false := by decide) (he : starEach (e :: []) X.env = (false, eval e X.env) :: starEach [] X.env := by rfl) (hpl : (backTo pos (starEach [] X.env)).any (·.1) = false := by rfl) :
    PS X (.Raise (some (.Call (.Name x p) [e] [] pos)) none pos2) (tRs1 C f W ta) := ps_raise hc tk (pmk_ex1 (Qt := fun _ _ _ _ => True) c hr hk hg ha hdb he hpl)
theorem ps_raise2 (c : Ex2 X.prog X.w X.K X.mg X.base x C f g) (hr : Room j X.A) (hk : 2 ≤ j) (hc : X.calm = true) (tk : Takes X W) (hg : Gl X x) (ha : PA X [e, e2] ta)
    (hdb : (x == ("__debug__" : Str)) = false := by decide) (he : starEach (e :: [e2]) X.env = (false, eval e X.env) :: starEach [e2] X.env := by rfl) (hpl : (backTo pos (starEach [e2] X.env)).any (·.1) = false := by rfl) :
    PS X (.Raise (some (.Call (.Name x p) [e, e2] [] pos)) none pos2) (tRs2 C f g W ta) := ps_raise hc tk (pmk_ex2 (Qt := fun _ _ _ _ => True) c hr hk hg ha hdb he hpl)
end
/-! ### the __init__ of an error -/
section
variable {P : Program} {w : World} {K : PySem.W.Frag} {mg : Str → Option Value} {base : Heap}
theorem ok_exi1 {f n : Str} {qual : Str} {st : Stmt} {fI : Addr} {fd : FuncData} {q1 q2 q3 q4 : Pos} (F : Df K "__init__" qual st [] fI fd) (S : FnScope ["self", n] ["self", n] (defScope st)) (hb : defBody st = [.Assign [.Attribute (.Name "self" q1) f q2] (.Name n q3) q4])
    (v0 : Vis (defScope st) "self") (v1 : Vis (defScope st) n) (d1 : (n == ("__debug__" : Str)) = false) (d2 : (n == ("__classdict__" : Str)) = false) (hs : ∀ env : Env, swapsWith (.Name n q3) (some (.Attribute (.Name "self" q1) f q2)) q4.line env = pure false) :
    FnOk P w K mg base CX0 1 fI fd ["self", n] (sp_exi1 K f) := by
  refine dfOk F S (fun vs H Q E h => ?_) (fun cdv A outer s H vs Q E hr h => ?_)
  · obtain ⟨a, C, v, rfl, _⟩ := h
    rfl
  · obtain ⟨a, C, v, rfl, T, no, ea, q⟩ := h
    rw [hb]
    refine ⟨_, pss_one (ps_exs (pe_var (i := 0) rfl v0) (pe_var (i := 1) rfl v1 d1 d2) (hs _)), ?_⟩
    exact ⟨v, rfl, .ref a, rfl, a, C, rfl, T, no, .inl ⟨ea, fun dx n ne => q dx n ne⟩⟩
theorem ok_exi2 {f g n m : Str} {qual : Str} {st : Stmt} {fI : Addr} {fd : FuncData} {q1 q2 q3 q4 r1 r2 r3 r4 : Pos} (F : Df K "__init__" qual st [] fI fd) (S : FnScope ["self", n, m] ["self", n, m] (defScope st)) (hb : defBody st = [.Assign [.Attribute (.Name "self" q1) f q2] (.Name n q3) q4, .Assign [.Attribute (.Name "self" r1) g r2] (.Name m r3) r4])
    (v0 : Vis (defScope st) "self") (v1 : Vis (defScope st) n) (v2 : Vis (defScope st) m) (d1 : (n == ("__debug__" : Str)) = false) (d2 : (n == ("__classdict__" : Str)) = false) (d3 : (m == ("__debug__" : Str)) = false) (d4 : (m == ("__classdict__" : Str)) = false)
    (hs : ∀ env : Env, swapsWith (.Name n q3) (some (.Attribute (.Name "self" q1) f q2)) q4.line env = pure false) (hs2 : ∀ env : Env, swapsWith (.Name m r3) (some (.Attribute (.Name "self" r1) g r2)) r4.line env = pure false) :
    FnOk P w K mg base CX0 1 fI fd ["self", n, m] (sp_exi2 K f g) := by
  refine dfOk F S (fun vs H Q E h => ?_) (fun cdv A outer s H vs Q E hr h => ?_)
  · obtain ⟨a, C, v, u, rfl, _⟩ := h
    rfl
  · obtain ⟨a, C, v, u, rfl, T, no, no2, ea, q⟩ := h
    rw [hb]
    refine ⟨_, pss_cons (ps_exs (pe_var (i := 0) rfl v0) (pe_var (i := 1) rfl v1 d1 d2) (hs _)) (pss_one (ps_exs (pe_var (i := 0) rfl v0) (pe_var (i := 2) rfl v2 d3 d4) (hs2 _))), ?_⟩
    refine ⟨v, rfl, .ref a, rfl, a, C, rfl, T, no, .inl ⟨ea, fun dx n ne => ?_⟩⟩
    refine ⟨u, rfl, .ref a, rfl, a, C, rfl, T, no2, .inr ⟨dx, [(f, v)], upd_same, by rw [upd_ne ne, upd_same], by show 1 ≤ 900; decide, q dx n ne⟩⟩
end
end Mv
set_option Elab.async false
set_option maxRecDepth 100000
set_option maxHeartbeats 4000000
/-! mvey: try with several clauses `except X as e`; what the clause sees; calls that may raise. -/
namespace Mv
open PySem PySem.Spec PyProof.Rows L2
/-- the ends of a clause whose name stands at i: the name goes -/
def suD (i : Nat) (D : Ends) : Ends := { nx := fun σ H => D.nx (σ.set i none) H, rt := D.rt, bk := fun σ H => D.bk (σ.set i none) H, ct := fun σ H => D.ct (σ.set i none) H }
/-- what the clauses wish, one behind another: class, slot of the name, suite -/
def wMs (K : PySem.W.Frag) (Wout : WX) (D : Ends) : List (Value × Nat × (Addr → Value → Option Addr → TS)) → WX
  | [] => Wout
  | (c, i, ts) :: r => fun cls d σ H => ∃ b, PySem.W.exmOne K cls c = some b ∧ (b = true → ∀ a, H a = none → ts a cls d (suD i D) (σ.set i (some (.ref a))) H) ∧ (b = false → wMs K Wout D r cls d σ H)
inductive HdsMs (X : Cx) : List ExceptHandler → List (Value × Nat × (Addr → Value → Option Addr → TS)) → Prop
  | nil : HdsMs X [] []
  | cons {x n : Str} {c : Value} {i : Nat} {ts : Addr → Value → Option Addr → TS} {b₀ : Stmt} {suite : List Stmt} {np pos' : Pos} {hds : List ExceptHandler} {l : List (Value × Nat × (Addr → Value → Option Addr → TS))} (hc : Names X x c) (hi : X.N[i]? = some n) (hln : X.env.kindOf n = some .local)
      (hsu : ∀ (a : Addr) (oe : Obj) (cls : Value) (d : Option Addr) (pn : List (Addr × Obj)), Zc cls d oe → (∃ vs, oe.data = .fields vs) → PSs (X.suite a ((a, oe) :: pn)) (b₀ :: suite) (ts a cls d)) (r : HdsMs X hds l) :
      HdsMs X (.ExceptHandler (some (.Name x np)) (some n) (b₀ :: suite) pos' :: hds) ((c, i, ts) :: l)
section
variable {X : Cx} {body : List Stmt} {h₀ : ExceptHandler} {hds : List ExceptHandler} {l : List (Value × Nat × (Addr → Value → Option Addr → TS))} {pos : Pos} {tb : WX → TS} {Wout : WX}
def tTry (K : PySem.W.Frag) (Wout : WX) (l : List (Value × Nat × (Addr → Value → Option Addr → TS))) (tb : WX → TS) : TS := fun D σ H => tb (wMs K Wout D l) D σ H
theorem ps_try_ms (hs : X.stack = X.env :: X.outer) (hf : X.env.frame = some X.env.locals) (hN : X.N.Nodup) (tk : Takes X Wout)
    (hb : ∀ (W : WX) (pn : List (Addr × Obj)) (xe : Value → Shared → Prop), Takes (X.tr pn xe) W → PassesOwn (model X.prog X.w) X.A X.env xe → PSs (X.tr pn xe) body (tb W))
    (hh : HdsMs X (h₀ :: hds) l) : PS X (.Try body (h₀ :: hds) [] [] pos) (tTry X.K Wout l tb) := by
  refine ⟨fun pins s σ H D I h => ?_⟩
  have ok := I.ok
  have hfr : X.A.frames = some (X.env :: X.outer) := by rw [ok.frames, hs]
  refine wpAny_Try_except ?_
  refine wpAny_mono ((hb (wMs X.K Wout D l) (X.pn ++ pins) (fun e s₁ => wpAny (model X.prog X.w) X.A (noteFrame e X.env) (fun _ s₂ => wpAny (model X.prog X.w) X.A (setFlight e none) (fun _ s₃ => wpAny (model X.prog X.w) X.A (handleBy e X.env (h₀ :: hds)) (SP X pins D) X.xe s₃) X.xe s₂) X.xe s₁) (fun u s' xx => ?_) PassesOwn.looking).run [] s σ H D (I.toTry _) h) (fun f s1 hsp => ?_) (fun e s1 he => he)
  · obtain ⟨a, B, sI, pins', σ', H', cls, d, rfl, J', nb, up, sky, na, os, ag, w⟩ := xx
    have J : Inv X pins σ' H' sI := J'.ofTry ok
    have sky' : Sky B (X.env :: X.outer) a (Zc cls d) X.env.locals s'.heap := by rw [← hs]; exact sky
    show wpAny (model X.prog X.w) X.A (noteFrame (.ref a) X.env) _ _ _
    refine Sky.land Zc.steady hfr hf sky' fun h3 fl3 up3 => ?_
    have J3 : Inv X pins σ' H' { s' with heap := h3 } := J.landed nb fl3.1 (up.trans up3) os ag
    obtain ⟨oe3, vs3, he3, hz3, hd3⟩ := fl3.there
    have nfr : a ∉ frs (X.env :: X.outer) := fun hm => by
      obtain ⟨_, o', e', hnf⟩ := fl3.2.2.1.mem hm
      rw [he3] at e'
      cases e'
      exact hnf _ hd3
    have nL : a ≠ X.env.locals := fun z => nfr (List.mem_filterMap.mpr ⟨X.env, List.mem_cons_self, by rw [hf, z]⟩)
    have nF : a ∉ X.fs := fun hm => by
      obtain ⟨e, he, q⟩ := List.mem_filterMap.mp hm
      exact nfr (List.mem_filterMap.mpr ⟨e, List.mem_cons_of_mem _ he, q⟩)
    have S3 := J3.suite he3 hd3 na nL nF
    have go : ∀ {hds' : List ExceptHandler} {l' : List (Value × Nat × (Addr → Value → Option Addr → TS))}, HdsMs X hds' l' → wMs X.K Wout D l' cls d σ' H' → wpAny (model X.prog X.w) X.A (handleBy (.ref a) X.env hds') (SP X pins D) X.xe { s' with heap := h3 } := by
      intro hds' l' hk
      induction hk with
      | nil =>
        intro w
        refine wpAny_handleBy_nil ?_
        obtain ⟨k1, k2, k3, oe, vs, T, oT, ts', he, hz, hd, h1, hr⟩ := id fl3
        unfold PySem.passOn
        refine wpAny_bind (wpAny_field he hd h1 ?_)
        rw [if_neg (show ¬ ((Value.ref T == Value.none) = true) from by simp)]
        have fin : wpAny (model X.prog X.w) X.A (setFlight (.ref a) X.env.frame) (fun _ s4 => wpAny (model X.prog X.w) X.A (throw (.ref a) : Sem Flow) (SP X pins D) X.xe s4) X.xe { s' with heap := h3 } := by
          rw [hf]
          exact HandSPX.setFlight_upZ fl3 fun h4 hh4 up4 => wpAny_throw (tk _ _ ⟨a, B, sI, pins, σ', H', cls, d, rfl, J, nb, (up.trans up3).trans up4, .inr (.inr (by rw [hs]; exact hh4)), na, os, ag, w⟩)
        first
          | exact wpAny_bind (wpAny_pure (wpAny_bind fin))
          | exact wpAny_bind fin
      | @cons x n c i ts b₀ suite np pos' hds2 l2 hc hi hln hsu r ih =>
        intro w
        obtain ⟨b, hb1, hyes, hno⟩ := w
        refine wpAny_handleBy_cons (codeAny_handlers_test ?_) (by intro q; cases q)
        have LT : PySem.W.Looks (model X.prog X.w) h3 (typeOf (.ref a)) cls := fun A Q E s k q => wpAny_typeOf_ref (k _ _ he3) (by rw [hz3.1]; exact q)
        have LM := PySem.W.exm_one (M := model X.prog X.w) (J3.kIn) LT hb1
        have test : ∀ {Q : Value → Shared → Prop} {E : Value → Shared → Prop}, Q c { s' with heap := h3 } → wpAny (model X.prog X.w) (X.A.mark (some (.ref a))) (eval (.Name x np) X.env) Q E { s' with heap := h3 } := fun {Q E} q => by
          obtain ⟨hg, hdbg, hm | ⟨hm, hv, hnn⟩⟩ := hc
          · exact ld_glob (X := X.suite a ((a, oe3) :: (X.pn ++ pins))) S3 hg hm q hdbg
          · exact ld_blt (X := X.suite a ((a, oe3) :: (X.pn ++ pins))) S3 hg hm hv q hnn hdbg
        refine test (LM.here ?_)
        cases b with
        | true =>
          refine codeAny_handlers_suite_as ?_
          refine HandSPX.lands_againZ fl3 fun h4 fl4 up4 => ?_
          have J4 : Inv X pins σ' H' { s' with heap := h4 } := J.landed nb fl4.1 ((up.trans up3).trans up4) os ag
          obtain ⟨oe4, vs4, he4, hz4, hd4⟩ := fl4.there
          have S4 := J4.suite he4 hd4 na nL nF
          refine store_ok (X := X.suite a ((a, oe4) :: (X.pn ++ pins))) (v := .ref a) S4 hN hi (.inl hln) rfl (fun s5 S5 => ?_) (.inr hln)
          refine wpAny_mono ((hsu a oe4 cls d (X.pn ++ pins) hz4 ⟨_, hd4⟩).run [] s5 _ H' _ S5 (hyes rfl a na)) (fun f s6 hsp => ?_) (fun _ _ z => False.elim z)
          have gone : ∀ {σ6 : L2.St} {H6 : Hp} {Q : Shared → Prop}, Inv (X.suite a ((a, oe4) :: (X.pn ++ pins))) [] σ6 H6 s6 → (∀ s7, Inv X pins (σ6.set i none) H6 s7 → Q s7) →
              wpAny (model X.prog X.w) X.A (do bindName X.env n .none; unbindBehindTheSuite X.env n pos') (fun _ s7 => Q s7) X.xe s6 := fun {σ6 H6 Q} S6 hq => gone_ok (S6.unsuite ok) hN hi hln hq
          cases f with
          | ret u =>
            obtain ⟨v6, σ6, H6, S6, r6, q6⟩ := hsp
            exact gone S6 fun s7 J7 => ⟨_, _, _, J7, r6, q6⟩
          | _ =>
            obtain ⟨σ6, H6, S6, q6⟩ := hsp
            exact gone S6 fun s7 J7 => ⟨_, _, J7, q6⟩
        | false =>
          show wpAny _ X.A (handleBy (.ref a) X.env hds2) _ _ _
          exact ih (hno rfl)
    exact go hh w
  · cases f with
    | next =>
      obtain ⟨σ', H', J', q⟩ := hsp
      exact wpAny_execs_nil ⟨σ', H', J'.ofTry ok, q⟩
    | ret u =>
      obtain ⟨v, σ', H', J', r, q⟩ := hsp
      exact ⟨v, σ', H', J'.ofTry ok, r, q⟩
    | _ =>
      obtain ⟨σ', H', J', q⟩ := hsp
      exact ⟨σ', H', J'.ofTry ok, q⟩
end
/-! ### what a clause sees of its error -/
/-- isinstance(e, c) -/
def rIsX (K : PySem.W.Frag) (a : Addr) (cls : Value) (d : Option Addr) : List V → Hp → VK → Prop := fun xs H Q => ∃ (D : Addr) (c : V) (cv : Value) (b : Bool), xs = [.ref a, c] ∧ cls = .ref D ∧ L2.ExcC K D ∧ (∀ u, RelV c u → u = cv) ∧ PySem.W.kitOne K (.ref D) cv = some b ∧ (d = none ∨ ∃ (dd : Addr) (fs : List (Str × V)), d = some dd ∧ H dd = some (.xd fs)) ∧ Q (.bl b) H
section
variable {X : Cx} {a : Addr} {oe : Obj} {cls : Value} {d : Option Addr} {pn : List (Addr × Obj)} {K : PySem.W.Frag}
theorem call_isX (hz : Zc cls d oe) (hf : ∃ vs, oe.data = .fields vs) (eK : X.K = K := by (conv => lhs; whnf)) : CallR (X.suite a ((a, oe) :: pn)) (.builtin "isinstance") (rIsX K a cls d) := by
  subst eK
  intro pins s σ H xs us Q I r h
  obtain ⟨D, c, cv, b, rfl, ec, C, hcv, e, hd, q⟩ := h
  cases r with
  | cons rx rr =>
    cases rr with
    | cons rt rr =>
      cases rr
      cases rx
      have eq := hcv _ rt
      subst eq
      subst ec
      obtain ⟨hget, _⟩ := I.pin (a, oe) (List.mem_append.mpr (.inl List.mem_cons_self))
      obtain ⟨vs, hv⟩ := hf
      have hcl : (PySem.W.clsIn X.K D).isSome = true := by
        obtain ⟨cd, hc, _⟩ := PySem.W.any_some C.hd
        rw [hc]
        rfl
      rcases hd with rfl | ⟨dd, fs, rfl, ea⟩
      · have J : PySem.W.InstAt s.heap a oe D none := ⟨hget, hz.1, by unfold PySem.W.notCls; rw [hv] <;> rfl, by rw [hz.2]; trivial⟩
        exact PySem.W.kia_one (PySem.W.kitx_exc hcl C.hg C.hk C.hs C.ha C.hn C.ht C.hm) I.kIn J e (fun z => nomatch z) fun tk => ⟨.bl b, H, I.kept (t' := tk) fun _ _ z => z, rfl, q⟩
      · have hx : ObjOk X.prog X.w H s.heap dd (.xd fs) := I.hok dd _ ea
        obtain ⟨mA, hns, hr⟩ := hx
        obtain ⟨od, ho, hl⟩ := lookIn_ns hns
        have J : PySem.W.InstAt s.heap a oe D (some od) := ⟨hget, hz.1, by unfold PySem.W.notCls; rw [hv] <;> rfl, by rw [hz.2]; exact ho⟩
        exact PySem.W.kia_one (PySem.W.kitx_exc hcl C.hg C.hk C.hs C.ha C.hn C.ht C.hm) I.kIn J e (fun z => nomatch z) fun tk => ⟨.bl b, H, I.kept (t' := tk) fun _ _ z => z, rfl, q⟩
end
/-! ### calls that may raise -/
/-- a def by its name -/
structure CaX (P : Program) (w : World) (K : PySem.W.Frag) (mg : Str → Option Value) (base : Heap) (k : Nat) (x : Str) (sp : Sp) (dvs : List V) : Prop where
  ex : ∃ (f : Addr) (fd : FuncData) (ps : List Str) (ds : List Value), FnOk P w K mg base (L2.CX P w) k f fd ps sp ∧ mg x = some (.ref f) ∧ PySem.W.keepIn K (.ref f) = true ∧ Binds K fd ps ds ∧ Vals dvs ds
/-- a class by its name -/
structure MaX (P : Program) (w : World) (K : PySem.W.Frag) (mg : Str → Option Value) (base : Heap) (k : Nat) (x : Str) (C : Addr) (sp : Sp) (dvs : List V) : Prop where
  ex : ∃ (f : Addr) (fd : FuncData) (ps : List Str) (ds : List Value), Mk K C f ∧ FnOk P w K mg base (L2.CX P w) k f fd ps sp ∧ mg x = some (.ref C) ∧ Binds K fd ps ds ∧ Vals dvs ds
/-- a method -/
structure MeX (P : Program) (w : World) (K : PySem.W.Frag) (mg : Str → Option Value) (base : Heap) (k : Nat) (C : Addr) (m : Str) (sp : Sp) (dvs : List V) : Prop where
  ex : ∃ (f : Addr) (fd : FuncData) (ps : List Str) (ds : List Value), Cls K C ∧ Meth K C m f ∧ FnOk P w K mg base (L2.CX P w) k f fd ps sp ∧ Binds K fd ps ds ∧ Vals dvs ds
def tCaX (sp : Sp) (dvs : List V) (W : WX) (t : TA) : TE := fun σ H Q => t σ H fun vs H1 => sp (vs ++ dvs) H1 Q (WE W σ)
def MeXR (C : Addr) (m : Str) (sp : Sp) (dvs : List V) (W : WX) (t : TA) (σ : L2.St) (Q : VK) : VK := fun x H1 => ∃ a dx fs, x = .ref a ∧ H1 a = some (.ins C dx fs) ∧ fs.lookup m = none ∧ t σ H1 fun vs H2 => sp (x :: (vs ++ dvs)) H2 Q (WE W σ)
def tMeX (C : Addr) (m : Str) (sp : Sp) (dvs : List V) (W : WX) (ta : TE) (t : TA) : TE := fun σ H Q => ta σ H (MeXR C m sp dvs W t σ Q)
section
variable {X : Cx} {k j : Nat} {C : Addr} {x m : Str} {sp : Sp} {dvs : List V} {p pos apos : Pos} {e o : Expr} {es : List Expr} {ta : TE} {t : TA} {W : WX}
theorem pe_caX (c : CaX X.prog X.w X.K X.mg X.base k x sp dvs) (hr : Room j X.A) (hk : k ≤ j) (hg : Gl X x) (tk : Takes X W) (ha : PA X (e :: es) t)
    (hdb : (x == ("__debug__" : Str)) = false := by decide) (he : starEach (e :: es) X.env = (false, eval e X.env) :: starEach es X.env := by rfl) (hpl : (backTo pos (starEach es X.env)).any (·.1) = false := by rfl) :
    PE X (.Call (.Name x p) (e :: es) [] pos) (tCaX sp dvs W t) := by
  obtain ⟨f, fd, ps, ds, F, hm, kp, b, d⟩ := c.ex
  exact pe_callSD F (hr.mono hk) hg hm kp b d (fun σ => passAt tk σ) ha hdb he hpl
theorem pe_meX {pl : Sem Bool} (c : MeX X.prog X.w X.K X.mg X.base k C m sp dvs) (hr : Room j X.A) (hk : k ≤ j) (tk : Takes X W) (he : PE X o ta) (ha : PA X (e :: es) t)
    (hst : starEach (e :: es) X.env = (false, eval e X.env) :: starEach es X.env := by rfl) (hpl : (backTo pos (starEach es X.env)).any (·.1) = false := by rfl)
    (ht : eval (.Call (.Attribute o m apos) (e :: es) [] pos) X.env = (do
      let ov ← eval o X.env
      standAt apos.atName
      let (f, first) ← holding [ov] (getMethod ov m pl)
      callWith pos f first (backTo pos (starEach (e :: es) X.env)) (backToKw pos (keywordEach [] X.env))) := by rfl) :
    PE X (.Call (.Attribute o m apos) (e :: es) [] pos) (tMeX C m sp dvs W ta t) := by
  obtain ⟨f, fd, ps, ds, hc, hm, F, b, d⟩ := c.ex
  refine ⟨fun pins s σ H Q I h => ?_⟩
  refine PySem.W.methodCall_KW (pl := pl) (thn (he.run pins s σ H _ I h) fun u s1 ⟨x, H1, I1, rx, a, dx, fs, ex, ea, l, q⟩ => ?_) ht
  subst ex
  obtain rfl : u = Value.ref a := rx
  refine getmeth_ok I1 ea hc hm l ?_
  refine PySem.W.callWith_K (first := [.ref a]) (h₀ := X.base) I.ok.mod.kin hm.kp (thn (ha.run pos pins s1 σ H1 _ I1 q) fun us s2 ⟨vs, H2, I2, r, q2⟩ => ⟨I2.kIn, ?_⟩) hst hpl
  exact run_fnSD (us := .ref a :: us) (vs := .ref a :: vs) F (hr.mono hk) b d (passAt tk σ) I2 (.cons rfl r) q2
end
def MaXR (C : Addr) (sp : Sp) (dvs : List V) (W : WX) (σ : L2.St) (Q : VK) : List V → Hp → Prop := fun vs H1 => ∀ x dx, H1 x = none → H1 dx = none → dx ≠ x → sp (.ref x :: (vs ++ dvs)) (upd (upd H1 dx (.own x)) x (.ins C dx [])) (fun v H2 => v = .non ∧ Q (.ref x) H2) (WE W σ)
def tMaX (C : Addr) (sp : Sp) (dvs : List V) (W : WX) (t : TA) : TE := fun σ H Q => t σ H (MaXR C sp dvs W σ Q)
section
variable {X : Cx} {k j : Nat} {C f : Addr} {x m : Str} {sp : Sp} {dvs : List V} {ds : List Value} {p pos apos : Pos} {e o : Expr} {es : List Expr} {ta : TE} {t : TA} {W : WX} {E : XK} {fd : FuncData} {ps : List Str}
theorem run_makeX {pins : List (Addr × Obj)} {σ : L2.St} {H : Hp} {s : Shared} {Q : VK} {us : List Value} {vs : List V} (M : Mk X.K C f) (F : FnOk X.prog X.w X.K X.mg X.base (L2.CX X.prog X.w) k f fd ps sp) (hr : Room (k + 1) X.A) (hb : Binds X.K fd ps ds) (hd : Vals dvs ds) (tk : Takes X W)
    (I : Inv X pins σ H s) (r : Vals vs us) (h : MaXR C sp dvs W σ Q vs H) : wpAny (model X.prog X.w) X.A (call (.ref C) us) (EP X pins σ Q) X.xe s := by
  have hq := h (s.heap.objs.size + 1) s.heap.objs.size (I.hok.fresh (Nat.le_succ _)) (I.hok.fresh (Nat.le_refl _)) (Nat.ne_of_lt (Nat.lt_succ_self _))
  have I2 := Inv.made (C := C) I
  have r2 : Vals (V.ref (s.heap.objs.size + 1) :: (vs ++ dvs)) (Value.ref (s.heap.objs.size + 1) :: (us ++ ds)) := .cons rfl (r.append hd)
  have hl : (Value.ref (s.heap.objs.size + 1) :: us ++ ds).length = ps.length := by
    have e := r2.length
    rw [F.len _ _ _ _ hq] at e
    exact e.symm
  refine wpAny_call (make_map (f := f) I.kIn M.makes M.init (beq_iff_eq.mp M.fn) (codeAny_mono (F.run _ X.stack _ _ ⟨Value.ref (s.heap.objs.size + 1) :: us, []⟩ (Value.ref (s.heap.objs.size + 1) :: (us ++ ds)) _ _ (WE W σ) (hr.make C us []) (I2.env0.make C us []) (hb _ (Value.ref (s.heap.objs.size + 1) :: us) I2.kIn hl) r2 hq) fun r s' hq' => ?_))
  cases r with
  | error e => exact passAt tk σ pins _ _ e s' I2 hq'
  | ok fl =>
    cases fl with
    | ret u =>
      obtain ⟨v, H', I3, rv, ev, q3⟩ := I2.after hq'
      subst ev
      exact ⟨rv, ⟨V.ref (s.heap.objs.size + 1), H', I3, rfl, q3⟩⟩
    | next => exact False.elim hq'
    | brk => exact False.elim hq'
    | cont => exact False.elim hq'
theorem pe_maX (c : MaX X.prog X.w X.K X.mg X.base k x C sp dvs) (hr : Room j X.A) (hk : k + 1 ≤ j) (hg : Gl X x) (tk : Takes X W) (ha : PA X (e :: es) t)
    (hdb : (x == ("__debug__" : Str)) = false := by decide) (he : starEach (e :: es) X.env = (false, eval e X.env) :: starEach es X.env := by rfl) (hpl : (backTo pos (starEach es X.env)).any (·.1) = false := by rfl) :
    PE X (.Call (.Name x p) (e :: es) [] pos) (tMaX C sp dvs W t) := by
  obtain ⟨f, fd, ps, ds, M, F, hm, b, d⟩ := c.ex
  refine ⟨fun pins s σ H Q I h => ?_⟩
  refine wpAny_Call_Name_kw (ld_glob I hg hm ?_ hdb)
  exact PySem.W.callWith_K (h₀ := X.base) I.ok.mod.kin M.kp (thn (ha.run pos pins s σ H _ I h) fun us s1 ⟨vs, H1, I1, r, q⟩ => ⟨I1.kIn, run_makeX M F (hr.mono hk) b d tk I1 r q⟩) he hpl
/-! by operators: what may be raised does not look at the slots -/
/-- a def that an operator of the class at C finds, and that may raise -/
structure Op3X (P : Program) (w : World) (K : PySem.W.Frag) (mg : Str → Option Value) (base : Heap) (k : Nat) (C : Addr) (m : Str) (sp : Sp) : Prop where
  ex : ∃ (g : Addr) (fd : FuncData) (ps : List Str), FnOk P w K mg base (L2.CX P w) k g fd ps sp ∧ Binds K fd ps [] ∧ PySem.W.findIn K (.ref C) m = some (some (.ref g)) ∧ PySem.W.isFn K (.ref g) = true ∧ PySem.W.fnIn K g = true
  sf : PySem.W.selfFirst K C = true
  ns : PySem.W.noSeq K C = true
/-- a wish about errors that does not look at the slots -/
abbrev WQ (E : XK) : WX := fun cls d _ H => E cls d H
def rInX (C : Addr) (sp : Sp) (E : XK) : R2 := fun x y H Q => ∃ a dx fs, x = .ref a ∧ H a = some (.ins C dx fs) ∧ sp [x, y] H Q E
theorem run_atX {A : Around} {pins : List (Addr × Obj)} {σ : L2.St} {H : Hp} {s : Shared} {Q : VK} {us : List Value} {vs : List V} {g : Addr} (F : FnOk X.prog X.w X.K X.mg X.base (L2.CX X.prog X.w) k g fd ps sp) (hr : Room k A) (hf : A.frames = some X.stack) (hb : Binds X.K fd ps []) (tk : Takes X (WQ E))
    (I : Inv X pins σ H s) (r : Vals vs us) (h : sp vs H Q E) : wpAny (model X.prog X.w) A (call (.ref g) us) (EP X pins σ Q) X.xe s := by
  have hl : (us ++ []).length = ps.length := by rw [List.append_nil, ← r.length]; exact F.len _ _ _ _ h
  have b := hb s us I.kIn hl
  rw [List.append_nil] at b
  have e0 := I.env0
  refine wpAny_call (codeAny_mono (F.run A X.stack s H ⟨us, []⟩ us vs Q E hr ⟨hf, e0.mod, e0.bs, e0.bsz, e0.funs, e0.frf, e0.hok, e0.bare⟩ b r h) fun r s' hq => ?_)
  cases r with
  | error e => exact passes_call (E := E) tk (fun _ _ _ _ z => z) pins σ H s e s' I hq
  | ok fl =>
    cases fl with
    | ret u => exact I.after hq
    | next => exact False.elim hq
    | brk => exact False.elim hq
    | cont => exact False.elim hq
theorem ip_ownX0 {op : Operator} (c : Op3X X.prog X.w X.K X.mg X.base k C m sp) (hr : Room k X.A) (tk : Takes X (WQ E)) (hm : PySem.dunderI op.info.2 = m := by decide +kernel) : PIp X op (rInX C sp E) := by
  obtain ⟨g, fd, ps, F, hb, hs, hf, _⟩ := c.ex
  intro pins s σ H x y v u Q I rx ry h
  obtain ⟨a, dx, fs, rfl, ea, q⟩ := h
  obtain rfl : v = Value.ref a := rx
  obtain ⟨mA, O, _⟩ := ins_get I.hok ea
  obtain ⟨od, J, _⟩ := O.look
  obtain ⟨mm, hF⟩ := I.fr
  subst hm
  refine PySem.W.ksp_inplace hF I.ok.mod.kin J c.sf hs hf ?_
  refine wpAny_mono (run_atX (vs := [.ref a, y]) F hr I.ok.frames hb tk I (.cons rfl (.cons ry .nil)) q) (fun w s' z => ?_) fun _ _ x => x
  obtain ⟨z', H', I', rz, qz⟩ := z
  exact SlX.cmpback rz ⟨z', H', I', rz, qz⟩
theorem pe_ixX0 {a b : Expr} {ta tb : TE} {pos : Pos} (c : Op3X X.prog X.w X.K X.mg X.base k C "__getitem__" sp) (hr : Room (k + 1) X.A) (tk : Takes X (WQ E)) (ha : PE X a ta) (hb : PE X b tb)
    (hsl : ∀ (x : Addr) (u : Value), subscripted b true (.ref x) u = runValue (.builtin "lifetime.subscript" ⟨[.ref x, u], []⟩) := by intros; with_unfolding_all rfl) : PE X (.Subscript a b pos) (tOp (rInX C sp E) ta tb) := by
  obtain ⟨g, fd, ps, F, hbn, hs, hf, hfn⟩ := c.ex
  refine ⟨fun pins s σ H Q I h => ?_⟩
  refine Subscript_ (binT ha hb I h fun v u s2 x y H2 I2 rx ry q => ?_)
  obtain ⟨p, dx, fs, rfl, ea, q⟩ := q
  obtain rfl : v = Value.ref p := rx
  obtain ⟨mA, O, _⟩ := ins_get I2.hok ea
  obtain ⟨od, J, _⟩ := O.look
  obtain ⟨mm, hF⟩ := I2.fr
  refine PySem.W.sub_K hF I2.ok.mod.kin J hs hfn hf ?_ (hsl p u)
  exact run_atX (vs := [.ref p, y]) F hr.in1 I2.ok.frames hbn tk I2 (.cons rfl (.cons ry .nil)) q
theorem set_ownX0 (c : Op3X X.prog X.w X.K X.mg X.base k C "__setitem__" sp) (hr : Room k X.A) (tk : Takes X (WQ E)) : PSet X (fun o i v H Q => ∃ a dx fs, o = .ref a ∧ H a = some (.ins C dx fs) ∧ sp [o, i, v] H (fun _ H' => Q H') E) := by
  obtain ⟨g, fd, ps, F, hb, hs, hf, _⟩ := c.ex
  intro pins s σ H o i v ov iv u Q I ro ri rv h
  obtain ⟨a, dx, fs, rfl, ea, q⟩ := h
  obtain rfl : ov = Value.ref a := ro
  obtain ⟨mA, O, _⟩ := ins_get I.hok ea
  obtain ⟨od, J, _⟩ := O.look
  obtain ⟨mm, hF⟩ := I.fr
  refine PySem.W.ksp_setItem hF I.ok.mod.kin J c.ns hs hf ?_
  refine wpAny_mono (run_atX (vs := [.ref a, i, v]) F hr I.ok.frames hb tk I (.cons rfl (.cons ri (.cons rv .nil))) q) (fun w s' z => ?_) fun _ _ x => x
  obtain ⟨z', H', I', rz, qz⟩ := z
  exact ⟨H', I', qz⟩
end
/-! over a text -/
section
variable {X : Cx} {P : Program} {w : World} {K : PySem.W.Frag} {mg : Str → Option Value} {base : Heap} {k j : Nat} {C : Addr} {sp : Sp} {m : Str} {E : XK}
theorem ip_ownX {op : Operator} (c : Op3X P w K mg base k C m sp) (hr : Room j X.A) (hk : k ≤ j) (tk : Takes X (WQ E)) (hm : PySem.dunderI op.info.2 = m := by decide +kernel) (e : Over X P w K mg base := by exact ⟨rfl, rfl, rfl, rfl, rfl⟩) : PIp X op (rInX C sp E) := by
  obtain ⟨rfl, rfl, rfl, rfl, rfl⟩ := e
  exact ip_ownX0 c (hr.mono hk) tk hm
theorem pe_ixX {a b : Expr} {ta tb : TE} {pos : Pos} (c : Op3X P w K mg base k C "__getitem__" sp) (hr : Room j X.A) (hk : k + 1 ≤ j) (tk : Takes X (WQ E)) (ha : PE X a ta) (hb : PE X b tb)
    (hsl : ∀ (x : Addr) (u : Value), subscripted b true (.ref x) u = runValue (.builtin "lifetime.subscript" ⟨[.ref x, u], []⟩) := by intros; with_unfolding_all rfl) (e : Over X P w K mg base := by exact ⟨rfl, rfl, rfl, rfl, rfl⟩) : PE X (.Subscript a b pos) (tOp (rInX C sp E) ta tb) := by
  obtain ⟨rfl, rfl, rfl, rfl, rfl⟩ := e
  exact pe_ixX0 c (hr.mono hk) tk ha hb hsl
theorem set_ownX (c : Op3X P w K mg base k C "__setitem__" sp) (hr : Room j X.A) (hk : k ≤ j) (tk : Takes X (WQ E)) (e : Over X P w K mg base := by exact ⟨rfl, rfl, rfl, rfl, rfl⟩) : PSet X (fun o i v H Q => ∃ a dx fs, o = .ref a ∧ H a = some (.ins C dx fs) ∧ sp [o, i, v] H (fun _ H' => Q H') E) := by
  obtain ⟨rfl, rfl, rfl, rfl, rfl⟩ := e
  exact set_ownX0 c (hr.mono hk) tk
end
/-! ### a def that may raise -/
section
variable {P : Program} {w : World} {K : PySem.W.Frag} {mg : Str → Option Value} {base : Heap}
theorem dfX {x qual : Str} {st : Stmt} {dvs : List V} {f : Addr} {fd : FuncData} {N ps : List Str} {k : Nat} {sp : Sp} (F : Df K x qual st dvs f fd) (S : FnScope N ps (defScope st)) (len : ∀ vs H Q E, sp vs H Q E → vs.length = ps.length)
    (hbody : ∀ (cdv : Value) (A : Around) (outer : List Env) (s : Shared) (H : Hp) (vs : List V) (Q : VK) (E : XK), Room k (A.deeper (envOfC qual (defScope st) s.heap.objs.size f cdv)) → sp vs H Q E →
      ∀ tk : Takes (cxOf (L2.CX P w) P w K mg base N qual (defScope st) f cdv A outer s H E) (WQ E), PassesOwn (model P w) (A.deeper (envOfC qual (defScope st) s.heap.objs.size f cdv)) (envOfC qual (defScope st) s.heap.objs.size f cdv) (cxOf (L2.CX P w) P w K mg base N qual (defScope st) f cdv A outer s H E).xe →
      ∃ t, PSs (cxOf (L2.CX P w) P w K mg base N qual (defScope st) f cdv A outer s H E) (defBody st) t ∧ t { nx := fun _ H' => Q .non H', rt := Q } (start N vs) H) : FnOk P w K mg base (L2.CX P w) (k + 1) f fd ps sp :=
  FunD.ok F S len fun cdv A outer s H vs Q E hr h => hbody cdv A outer s H vs Q E hr h (takes_of rfl rfl rfl rfl) (passes_of rfl)
end
/-! ### readings, step by step -/
section
variable {K : PySem.W.Frag} {C : Addr} {f g m : Str} {σ : L2.St} {H H1 : Hp} {Q : VK} {QL : List V → Hp → Prop} {v u : V} {vs dvs : List V} {ta te : TE} {t ta' : TA} {sp : Sp} {W Wout : WX} {E : XK} {a : Addr} {D : Ends} {cls c : Value} {d : Option Addr} {i : Nat} {ts : Addr → Value → Option Addr → TS} {l : List (Value × Nat × (Addr → Value → Option Addr → TS))} {tb : WX → TS}
theorem go_caX (q : t σ H fun vs H1 => sp vs H1 Q (WE W σ)) : tCaX sp [] W t σ H Q := by
  show t σ H fun vs H1 => sp (vs ++ []) H1 Q (WE W σ)
  simpa only [List.append_nil] using q
theorem go_meX (q : ta σ H (MeXR C m sp dvs W t σ Q)) : tMeX C m sp dvs W ta t σ H Q := q
theorem go_merX {dx : Addr} {fs : List (Str × V)} (h : H a = some (.ins C dx fs)) (hm : fs.lookup m = none) (q : t σ H fun vs H2 => sp (.ref a :: vs) H2 Q (WE W σ)) : MeXR C m sp [] W t σ Q (.ref a) H := by
  refine ⟨a, dx, fs, rfl, h, hm, ?_⟩
  simpa only [List.append_nil] using q
theorem go_maX (q : t σ H (MaXR C sp dvs W σ Q)) : tMaX C sp dvs W t σ H Q := q
theorem go_mkx (q : ∀ x dx H', Same H H' → H' x = some (.ins C dx []) → H x = none → sp (.ref x :: vs) H' (fun v H2 => v = .non ∧ Q (.ref x) H2) (WE W σ)) : MaXR C sp [] W σ Q vs H := fun x dx nx nd ne => by
  have e : vs ++ [] = vs := List.append_nil _
  rw [e]
  refine q x dx _ (fun b o h => ?_) upd_same nx
  rw [upd_ne (ne_of_none h nx), upd_ne (ne_of_none h nd)]
  exact h
theorem go_rs1 (q : ta' σ H (Rs1 C f W σ)) : tRs1 C f W ta' D σ H := q
theorem go_rs2 (q : ta' σ H (Rs2 C f g W σ)) : tRs2 C f g W ta' D σ H := q
theorem go_rs1v (q : ∀ d H', H d = none → Same H H' → H' d = some (.xd [(f, v)]) → W (.ref C) (some d) σ H') : Rs1 C f W σ [v] H := ⟨v, rfl, q⟩
theorem go_rs2v (q : ∀ d H', H d = none → Same H H' → H' d = some (.xd [(g, u), (f, v)]) → W (.ref C) (some d) σ H') : Rs2 C f g W σ [v, u] H := ⟨v, u, rfl, q⟩
theorem go_try (q : tb (wMs K Wout D l) D σ H) : tTry K Wout l tb D σ H := q
theorem go_ms1 (e : PySem.W.exmOne K cls c = some true) (q : ∀ a, H a = none → ts a cls d (suD i D) (σ.set i (some (.ref a))) H) : wMs K Wout D ((c, i, ts) :: l) cls d σ H := ⟨true, e, fun _ => q, fun z => nomatch z⟩
theorem go_ms0 (e : PySem.W.exmOne K cls c = some false) (q : wMs K Wout D l cls d σ H) : wMs K Wout D ((c, i, ts) :: l) cls d σ H := ⟨false, e, fun z => (nomatch z), fun _ => q⟩
def XfR (a : Addr) (cls : Value) (d : Option Addr) (C : Addr) (f : Str) (Q : VK) : VK := fun x H1 => x = .ref a ∧ cls = .ref C ∧ ∃ (dd : Addr) (fs : List (Str × V)) (v : V), d = some dd ∧ H1 dd = some (.xd fs) ∧ fs.lookup f = some v ∧ Q v H1
theorem go_xf (q : te σ H (XfR a cls d C f Q)) : tXf a cls d C f te σ H Q := q
theorem go_xfr {dd : Addr} {fs : List (Str × V)} (h : H dd = some (.xd fs)) (e : fs.lookup f = some v) (q : Q v H) : XfR a (.ref C) (some dd) C f Q (.ref a) H := ⟨rfl, rfl, dd, fs, v, rfl, h, e, q⟩
theorem go_isX {D dd : Addr} {fs : List (Str × V)} {b : Bool} (hc : L2.ExcC K D) (h : H dd = some (.xd fs)) (e : PySem.W.kitOne K (.ref D) (.ref C) = some b) (q : Q (.bl b) H) : rIsX K a (.ref D) (some dd) [.ref a, .ref C] H Q := ⟨D, .ref C, .ref C, b, rfl, rfl, hc, fun _ r => r, e, .inr ⟨dd, fs, rfl, h⟩, q⟩
theorem go_isXt {D dd : Addr} {fs : List (Str × V)} {b : Bool} {y : String} (hc : L2.ExcC K D) (h : H dd = some (.xd fs)) (e : PySem.W.kitOne K (.ref D) (.type y) = some b) (q : Q (.bl b) H) : rIsX K a (.ref D) (some dd) [.ref a, .ty y] H Q := ⟨D, .ty y, .type y, b, rfl, rfl, hc, fun _ r => r, e, .inr ⟨dd, fs, rfl, h⟩, q⟩
end
end Mv
set_option Elab.async false
set_option maxRecDepth 100000
set_option maxHeartbeats 4000000
/-! mvez: which clause takes which error; what isinstance tells of them. -/
namespace Mv
open PySem PySem.Spec PyProof.Rows L2
/-- errors of which none is a kind of another -/
structure ExM (K : PySem.W.Frag) (cs : List Addr) : Prop where
  nd : cs.Nodup
  ok : ∀ a ∈ cs, ∀ b ∈ cs, PySem.W.exmOne K (.ref a) (.ref b) = some (decide (a = b))
theorem exmB_ok {K : PySem.W.Frag} {cs : List Addr} (h : exmB K cs = true) : ExM K cs := by
  obtain ⟨h1, h2⟩ := Bool.and_eq_true_iff.mp h
  refine ⟨of_decide_eq_true h1, fun a ha b hb => ?_⟩
  exact of_decide_eq_true (List.all_eq_true.mp (List.all_eq_true.mp h2 a ha) b hb)
theorem ExM.yes {K : PySem.W.Frag} {cs : List Addr} (h : ExM K cs) (i : Nat) {a : Addr} (ha : cs[i]? = some a) : PySem.W.exmOne K (.ref a) (.ref a) = some true := by
  rw [h.ok a (List.mem_of_getElem? ha) a (List.mem_of_getElem? ha), decide_eq_true rfl]
theorem ExM.no {K : PySem.W.Frag} {cs : List Addr} (h : ExM K cs) (i j : Nat) {a b : Addr} (ha : cs[i]? = some a) (hb : cs[j]? = some b) (n : i ≠ j) : PySem.W.exmOne K (.ref a) (.ref b) = some false := by
  rw [h.ok a (List.mem_of_getElem? ha) b (List.mem_of_getElem? hb), decide_eq_false]
  intro e
  subst e
  have hi := (List.getElem?_eq_some_iff.mp ha).1
  exact n ((List.getElem?_inj hi h.nd).mp (ha.trans hb.symm))
/-- isinstance of errors -/
structure ExI (K : PySem.W.Frag) (l : List (Addr × Value × Bool)) : Prop where
  ok : ∀ p ∈ l, PySem.W.kitOne K (.ref p.1) p.2.1 = some p.2.2
theorem exiB_ok {K : PySem.W.Frag} {l : List (Addr × Value × Bool)} (h : exiB K l = true) : ExI K l := ⟨fun p hp => of_decide_eq_true (List.all_eq_true.mp h p hp)⟩
theorem ExI.at {K : PySem.W.Frag} {l : List (Addr × Value × Bool)} (h : ExI K l) (i : Nat) {a : Addr} {v : Value} {b : Bool} (e : l[i]? = some (a, v, b)) : PySem.W.kitOne K (.ref a) v = some b := h.ok _ (List.mem_of_getElem? e)
theorem exeB_ok {K : PySem.W.Frag} {C : Addr} (h : exeB K C = true) : Oex K C ∧ L2.XfC K C ∧ L2.ExcC K C := by
  obtain ⟨h1, h⟩ := Bool.and_eq_true_iff.mp h
  obtain ⟨h2, h⟩ := Bool.and_eq_true_iff.mp h
  obtain ⟨h3, h⟩ := Bool.and_eq_true_iff.mp h
  obtain ⟨h4, h⟩ := Bool.and_eq_true_iff.mp h
  obtain ⟨h5, h⟩ := Bool.and_eq_true_iff.mp h
  obtain ⟨h6, h⟩ := Bool.and_eq_true_iff.mp h
  obtain ⟨h7, h8⟩ := Bool.and_eq_true_iff.mp h
  have h3 := of_decide_eq_true h3
  have h4 := of_decide_eq_true h4
  exact ⟨oexB_ok h1, ⟨h3, h4, (oexB_ok h1).exC, (oexB_ok h1).hd⟩, ⟨h3, h4, (oexB_ok h1).exC, (oexB_ok h1).hd, of_decide_eq_true h5, of_decide_eq_true h6, of_decide_eq_true h7, of_decide_eq_true h8⟩⟩
/-- a class that is named alone -/
structure ExN (mg : Str → Option Value) (x : Str) (C : Addr) : Prop where
  g : mg x = some (.ref C)
structure BltE (mg : Str → Option Value) : Prop where
  ValueError : mg "ValueError" = none
  RuntimeError : mg "RuntimeError" = none
  LookupError : mg "LookupError" = none
  ArithmeticError : mg "ArithmeticError" = none
  IndexError : mg "IndexError" = none
theorem bt_ValueError : bootBuiltins "ValueError" = some (.type "ValueError") := by decide +kernel
theorem bt_RuntimeError : bootBuiltins "RuntimeError" = some (.type "RuntimeError") := by decide +kernel
theorem bt_LookupError : bootBuiltins "LookupError" = some (.type "LookupError") := by decide +kernel
theorem bt_ArithmeticError : bootBuiltins "ArithmeticError" = some (.type "ArithmeticError") := by decide +kernel
theorem bt_IndexError : bootBuiltins "IndexError" = some (.type "IndexError") := by decide +kernel
end Mv
set_option Elab.async false
set_option maxRecDepth 100000
set_option maxHeartbeats 4000000
/-! mvxr: classes made of any number of values, that may raise. -/
namespace Mv
open PySem PySem.Spec PyProof.Rows L2
section
variable {P : Program} {w : World} {K : PySem.W.Frag} {mg : Str → Option Value} {base : Heap}
theorem dfStarX {x qual : Str} {st : Stmt} {f : Addr} {fd : FuncData} {N ps : List Str} {pv : Str} {k : Nat} {sp : Sp} (F : Df K x qual st [] f fd) (S : FnScope N (ps ++ [pv]) (defScope st))
    (hb : ∀ (kV doc pm : Value) (an : Option Addr) (cdv ct : Value) (us rest : List Value), us.length = ps.length → bindArgs (PySem.W.fnOf x qual (defArgs st) (defBody st) (defScope st) .none kV doc pm an cdv ct) ⟨us ++ rest, []⟩ = (newTuple rest >>= fun t => pure (ps.zip us ++ [(pv, t)])))
    (hbody : ∀ (cdv : Value) (A : Around) (outer : List Env) (s : Shared) (H : Hp) (vs : List V) (Q : VK) (E : XK), Room k (A.deeper (envOfC qual (defScope st) s.heap.objs.size f cdv)) → sp vs H Q E →
      ∀ tk : Takes (cxOf (L2.CX P w) P w K mg base N qual (defScope st) f cdv A outer s H E) (WQ E), PassesOwn (model P w) (A.deeper (envOfC qual (defScope st) s.heap.objs.size f cdv)) (envOfC qual (defScope st) s.heap.objs.size f cdv) (cxOf (L2.CX P w) P w K mg base N qual (defScope st) f cdv A outer s H E).xe →
      ∃ t, PSs (cxOf (L2.CX P w) P w K mg base N qual (defScope st) f cdv A outer s H E) (defBody st) t ∧ t { nx := fun _ H' => Q .non H', rt := Q } (start N vs) H) :
    FnR P w K mg base (L2.CX P w) (k + 1) f (fun vs H Q E => ∃ ws rest, vs = ws ++ rest ∧ ws.length = ps.length ∧ rest.length ≤ sizeLine ∧ ∀ p, H p = Option.none → sp (ws ++ [V.ref p]) (upd H p (.tup rest)) Q E) := by
  obtain ⟨oc, od, dV, kV, doc, pm, an, cdv, ct, osl, rfl, lk, hcd, hd, _⟩ := F.ex
  rcases hd with ⟨_, e⟩ | ⟨e, _⟩
  · subst e
    exact StX.fn_star lk hcd S StX.cxUp (hb kV doc pm an cdv ct) fun A outer s H vs Q E hr hsp => hbody cdv A outer s H vs Q E hr hsp (takes_of rfl rfl rfl rfl) (passes_of rfl)
  · exact absurd rfl e
end
/-- a class made by positional arguments, any number of them; it may raise -/
structure MaRX (P : Program) (w : World) (K : PySem.W.Frag) (mg : Str → Option Value) (base : Heap) (k : Nat) (x : Str) (C : Addr) (sp : Sp) : Prop where
  ex : ∃ (f : Addr), Mk K C f ∧ FnR P w K mg base (L2.CX P w) k f sp ∧ mg x = some (.ref C)
section
variable {X : Cx} {k j : Nat} {C : Addr} {x : Str} {sp : Sp} {p pos : Pos} {e : Expr} {es : List Expr} {t : TA} {E : XK}
theorem passE (tk : Takes X (WQ E)) : Passes (L2.CX X.prog X.w) X E := fun pins σ H s e s' I c => passAt tk σ pins H s e s' I c
theorem pe_marX (c : MaRX X.prog X.w X.K X.mg X.base k x C sp) (hr : Room j X.A) (hk : k + 1 ≤ j) (hg : Gl X x) (tk : Takes X (WQ E)) (ha : PA X (e :: es) t)
    (hdb : (x == ("__debug__" : Str)) = false := by decide) (he : starEach (e :: es) X.env = (false, eval e X.env) :: starEach es X.env := by rfl) (hpl : (backTo pos (starEach es X.env)).any (·.1) = false := by rfl) :
    PE X (.Call (.Name x p) (e :: es) [] pos) (StX.tMakeR C sp E t) := by
  obtain ⟨f, M, F, hm⟩ := c.ex
  exact StX.pe_makeR M F (hr.mono hk) hg hm (passE tk) ha hdb he hpl
theorem pe_marX0 (c : MaRX X.prog X.w X.K X.mg X.base k x C sp) (hr : Room j X.A) (hk : k + 1 ≤ j) (hg : Gl X x) (tk : Takes X (WQ E)) (hdb : (x == ("__debug__" : Str)) = false := by decide) :
    PE X (.Call (.Name x p) [] [] pos) (StX.tMakeR C sp E tNil) := by
  obtain ⟨f, M, F, hm⟩ := c.ex
  refine ⟨fun pins s σ H Q I h => ?_⟩
  refine wpAny_Call_Name_kw (ld_glob I hg hm ?_ hdb)
  exact PySem.W.callWith_K0 I.kIn M.kp (StX.run_makeR (us := []) M F (hr.mono hk) (passE tk) I .nil h)
end
end Mv
set_option Elab.async false
set_option maxRecDepth 100000
set_option maxHeartbeats 4000000
/-! sorted of lists of tuples of ints of one length, however many. -/
namespace SrtO
open PySem PySem.Spec PyProof.Rows
section
variable {prog : Program} {w : World} {A : Around} {E : Value → Shared → Prop} {s : Shared}
theorem mv_swo (r : Value → Int) : Swo fun v u => decide (r v < r u) := by
  refine ⟨fun x y h => ?_, fun x y z h1 h2 => ?_⟩
  · have := of_decide_eq_true h
    exact decide_eq_false (by omega)
  · have a := of_decide_eq_false h1
    have b := of_decide_eq_false h2
    exact decide_eq_false (by omega)
theorem mv_cmp {vs : List Value} {d : Nat} {B : Int} {r : Value → Int} (x : TS.TupsOk s.heap d B vs) (hr : ∀ v, v ∈ vs → ∀ ns, TS.TupInts s.heap v ns → r v = TS.code B ns) : Cmp prog w A s (tuples' true) (fun p => p.1 ∈ vs) (lt2 fun v u => decide (r v < r u)) := by
  intro p q hm hm'
  obtain ⟨ns, t1, l1, b1⟩ := x _ hm
  obtain ⟨ms, t2, l2, b2⟩ := x _ hm'
  show wpAny (model prog w) A (keyLt' (tuples' true) p.1 q.1) (fun c s' => s' = s ∧ c = decide (r p.1 < r q.1)) (fun _ _ => False) s
  rw [hr _ hm ns t1, hr _ hm' ms t2]
  obtain ⟨a, xs, e, ⟨o, ho, hc, n, hd⟩, i1⟩ := t1
  obtain ⟨a', ys, e', ⟨o', ho', hc', n', hd'⟩, i2⟩ := t2
  rw [e, e']
  refine PySem.W.kat_lt ho hd ho' hd' ?_
  have z1 := i1.length
  have z2 := i2.length
  rw [show decide (xs.size < ys.size) = false from decide_eq_false (by simp at z1 z2; omega)]
  exact TS.lex_ints 0 i1 i2 (by omega) b1 b2 ⟨rfl, rfl⟩
theorem mv_sortable {a : Addr} {vs : List Value} {d : Nat} {B : Int} {r : Value → Int} (h0 : 0 < vs.length) (hd : 1 ≤ d) (x : TS.TupsOk s.heap d B vs) (hr : ∀ v, v ∈ vs → ∀ ns, TS.TupInts s.heap v ns → r v = TS.code B ns) (ha : ∀ o, s.heap.get? a = some o → o.cls ≠ .type "tuple") :
    SortableO prog w A s a vs fun v u => decide (r v < r u) := by
  intro h' keep
  have kp : ∀ b o, s.heap.get? b = some o → o.cls = .type "tuple" → h'.get? b = some o := fun b o e c => keep b o (fun z => by subst z; exact ha o e c) e
  have x' := x.keeps kp
  obtain ⟨fs, h1, h2, h3⟩ := TS.firsts_of hd vs x'
  refine ⟨tuples' true, fun Q E hq => ?_, mv_cmp (s := { s with heap := h' }) x' fun v hv ns t => ?_⟩
  · refine PySem.W.kat_kind (T := .type "int") h1 (by omega) (fun f hm => ?_) (by rfl) ?_
    · obtain ⟨m, t, rfl⟩ := h3 f hm
      exact PySem.W.Looks.now
    · have e : (Value.type "int" != Value.type "tuple") = true := by first | decide +kernel | rfl | decide
      rw [e]
      exact hq
  · obtain ⟨ns0, t0, _⟩ := x v hv
    have e : ns = ns0 := t.ints.symm.trans (t0.keeps kp).ints
    rw [e]
    exact hr v hv ns0 t0
theorem mv_sorted {l : Addr} {vs : List Value} {d : Nat} {B : Int} {r : Value → Int} {Q : Value → Shared → Prop} (hl : s.heap.IsList l vs.toArray) (hz : vs.length ≤ sizeLine) (hd : 1 ≤ d) (x : TS.TupsOk s.heap d B vs) (hr : ∀ v, v ∈ vs → ∀ ns, TS.TupInts s.heap v ns → r v = TS.code B ns)
    (h : ∀ (h' : Heap) (d : Addr) (out : List Value), Srtd (fun v u => decide (r v < r u)) out → Stb (fun v u => decide (r v < r u)) out vs → (∀ b o, s.heap.get? b = some o → h'.get? b = some o) → s.heap.objs.size ≤ d → (∃ n, h'.get? d = some (seqObj "list" out.toArray n)) → Q (.ref d) { s with heap := h' }) :
    wpAny (model prog w) A (call (.builtin "sorted") [.ref l]) Q E s := by
  refine sorted_ord (mv_swo r) hl hz (fun h2 h₁ a ha kk => ?_) fun out hs hb => ?_
  · have kp : ∀ b o, s.heap.get? b = some o → o.cls = .type "tuple" → h₁.get? b = some o := fun b o e _ => (kk b o e).2
    refine mv_sortable (s := { s with heap := h₁ }) (by omega) hd (x.keeps kp) (fun v hv ns t => ?_) fun o e => ?_
    · obtain ⟨ns0, t0, _⟩ := x v hv
      have e : ns = ns0 := t.ints.symm.trans (t0.keeps kp).ints
      rw [e]
      exact hr v hv ns0 t0
    · have e' : some o = some (seqObj "list" vs.toArray 0) := e.symm.trans ha
      cases e'
      intro c
      exact absurd (Value.type.inj c) (by decide)
  · exact h _ _ out hs hb (fun b o e => sortedAll_old e) (Nat.le_succ _) (sortedAll_at s.heap vs out.toArray)
end
end SrtO
namespace Mv
open PySem PySem.Spec PyProof.Rows L2
/-- a tuple of ints as data -/
def tI (k : List Int) : PyData := .tuple (k.map PyData.int)
/-- sorted(xs), xs a list of tuples of d ints each in [0, B) -/
def rSortT (K : PySem.W.Frag) : List V → Hp → VK → Prop := fun vs H Q => ∃ (a : Addr) (xs : List V) (ks : List (List Int)) (d : Nat) (B : Int), vs = [V.ref a] ∧ SqL K H a xs ∧ DpAll K H xs (ks.map tI) ∧ 1 ≤ d ∧ (∀ k ∈ ks, k.length = d ∧ TS.Bd B k) ∧
  ∀ (ys : List V) (js : List (List Int)) (p : Addr) (H' : Hp), js.Perm ks → js.Pairwise (fun x y => TS.code B x ≤ TS.code B y) → H p = none → Same H H' → H' p = some (.lst ys) → DpAll K H' ys (js.map tI) → Q (.ref p) H'
section
variable {K : PySem.W.Frag}
theorem tups_raw {X : Cx} {pins : List (Addr × Obj)} {σ : L2.St} {H : Hp} {s : Shared} (I : Inv X pins σ H s) : ∀ {xs : List V} {ks : List (List Int)} {its : List Value}, DpAll X.K H xs (ks.map tI) → Vals xs its →
    its.map (TS.intsOf s.heap) = ks ∧ ∀ u ∈ its, ∃ t ns, u = Value.ref t ∧ ns ∈ ks ∧ SqT X.K H t (ns.map V.int) ∧ TS.TupInts s.heap u ns
  | _, [], _, .nil, .nil => ⟨rfl, fun u hu => by simp at hu⟩
  | _, k :: ks, _, .cons a h, .cons (b := u) r rs => by
    obtain ⟨e, h2⟩ := tups_raw I h rs
    obtain ⟨t, rfl, ht⟩ := Dp.tupIE a
    obtain rfl : u = Value.ref t := r
    have raw := tupI_raw I ht
    refine ⟨by rw [List.map_cons, raw.ints, e], fun v hv => ?_⟩
    rcases List.mem_cons.mp hv with rfl | hv
    · exact ⟨t, k, rfl, List.mem_cons_self .., ht, raw⟩
    · obtain ⟨t', ns, e1, e2, e3, e4⟩ := h2 v hv
      exact ⟨t', ns, e1, List.mem_cons_of_mem _ e2, e3, e4⟩
theorem tups_back {H : Hp} {h : Heap} : ∀ {out : List Value}, (∀ u ∈ out, ∃ t ns, u = Value.ref t ∧ SqT K H t (ns.map V.int) ∧ TS.TupInts h u ns) → DpAll K H (out.map backV) ((out.map (TS.intsOf h)).map tI)
  | [], _ => .nil
  | u :: out, hu => by
    obtain ⟨t, ns, rfl, ht, raw⟩ := hu u (List.mem_cons_self ..)
    refine .cons ?_ (tups_back fun v hv => hu v (List.mem_cons_of_mem _ hv))
    rw [raw.ints]
    exact Dp.tupI ht
theorem cr_sortT' {X : Cx} (e : X.K = K := by (conv => lhs; whnf)) : CallR X (.builtin "sorted") (rSortT K) := by
  subst e
  intro pins s σ H vs us Q I r h
  obtain ⟨a, xs, ks, d, B, rfl, hs, hx, hd, hk, q⟩ := h
  obtain ⟨its, rv, hl, hz⟩ := I.list hs
  obtain ⟨u, rfl, ru⟩ := vals1 r
  obtain rfl : u = Value.ref a := ru
  obtain ⟨ek, hraw⟩ := tups_raw I hx rv
  refine SrtO.mv_sorted (r := fun v => TS.code B (TS.intsOf s.heap v)) hl.isList (by rw [← rv.length]; exact hz) hd (fun v hv => ?_) (fun v hv ns t => by rw [t.ints]) fun h' p out h1 h2 kp hp hn => ?_
  · obtain ⟨t, ns, rfl, hm, _, raw⟩ := hraw v hv
    exact ⟨ns, raw, hk ns hm⟩
  · have h3 : ∀ u ∈ out, ∃ t ns, u = Value.ref t ∧ SqT X.K H t (ns.map V.int) ∧ TS.TupInts s.heap u ns := fun u hu => by
      obtain ⟨t, ns, e1, _, e3, e4⟩ := hraw u (h2.perm.mem_iff.mp hu)
      exact ⟨t, ns, e1, e3, e4⟩
    obtain ⟨n, hn⟩ := hn
    have hfr : H p = none := I.hok.fresh hp
    have hvb : Vals (out.map backV) out := vals_back fun u hu => by
      obtain ⟨t, _, e1, _⟩ := h3 u hu
      exact ⟨t, e1⟩
    refine ⟨.ref p, upd H p (.lst (out.map backV)), I.laid (t' := s.toks) kp hp ⟨?_, out, n, hvb, hn⟩, rfl, ?_⟩
    · rw [List.length_map, h2.len, ← rv.length]; exact hz
    · refine q (out.map backV) (out.map (TS.intsOf s.heap)) p _ (by rw [← ek]; exact h2.perm.map _) ?_ hfr (same_new hfr) upd_same ((tups_back h3).up (same_new hfr))
      rw [List.pairwise_map]
      exact h1.imp fun {x y} z => by
        have := of_decide_eq_false z
        omega
end
end Mv
set_option Elab.async false
set_option maxRecDepth 100000
set_option maxHeartbeats 4000000
/-! Methods of lists, three names at once, // of great numbers: for the steps. -/
namespace Mv
open PySem PySem.Spec PyProof.Rows L2
def BmR (K : PySem.W.Frag) (T : String) (r : V → List V → Hp → VK → Prop) (t : TA) (σ : L2.St) (Q : VK) : VK := fun x H1 => tyV K T x H1 ∧ t σ H1 fun xs H2 => r x xs H2 Q
def Par3 (i j l : Nat) (n : L2.St → Hp → Prop) (σ : L2.St) : List V → Hp → Prop := fun vs H1 => ∃ v w u, vs = [v, w, u] ∧ n (((σ.set i (some v)).set j (some w)).set l (some u)) H1
section
variable {K : PySem.W.Frag} {σ σ' : L2.St} {H H' : Hp} {Q : VK} {n b c : L2.St → Hp → Prop} {rt : VK} {v w u y : V} {xs zs : List V} {t : TA} {to : TE} {a a' : Addr} {r : V → List V → Hp → VK → Prop}
theorem pe_bm' {X : Cx} {T : String} {name : Str} {id : String} {o e : Expr} {es : List Expr} {apos cpos : Pos} (pa : PlainAttrs T) (slot : Slot T name id) (hty : typeOf (.builtin id) = pure (.type "method_descriptor")) (hm : MtR X id r) (ho : PE X o to) (ha : PA X (e :: es) t) (eK : X.K = K := by (conv => lhs; whnf)) (hbase : attributeBase o name X.env (eval o X.env) = eval o X.env := by rfl)
    (hfew : ((backTo cpos (starEach (e :: es) X.env)).all (fun x => !x.1) && (backToKw cpos (keywordEach [] X.env)).all (fun x => x.1.isSome) && decide ((e :: es).length + ([] : List Keyword).length + (if ([] : List Keyword).isEmpty then 0 else 1) < 30)) = true := by rfl) (hline : (apos.endLine == cpos.line) = true := by rfl)
    (hs : starEach (e :: es) X.env = (false, eval e X.env) :: starEach es X.env := by rfl) (hplain : (backTo cpos (starEach es X.env)).any (·.1) = false := by rfl) : PE X (.Call (.Attribute o name apos) (e :: es) [] cpos) (tBM K T r to t) := by
  subst eK
  exact pe_bm pa slot hty hm ho ha hbase hfew hline hs hplain
theorem go_bm (q : to σ H (BmR K "list" r t σ Q)) : tBM K "list" r to t σ H Q := q
theorem go_bmL (h : H a = some (.lst xs)) (q : t σ H fun vs H2 => r (.ref a) vs H2 Q) : BmR K "list" r t σ Q (.ref a) H := ⟨.inl ⟨rfl, _, SqL.of h⟩, q⟩
theorem go_ext (h1 : H a = some (.lst xs)) (h2 : H a' = some (.lst zs)) (hz : xs.length + zs.length ≤ sizeLine) (q : Q .non (upd H a (.lst (xs ++ zs)))) : rExtend (.ref a) [.ref a'] H Q := ⟨a, a', xs, zs, rfl, rfl, h1, h2, hz, q⟩
theorem go_app (h1 : H a = some (.lst xs)) (hz : xs.length < sizeLine) (q : Q .non (upd H a (.lst (xs ++ [y])))) : rAppend (.ref a) [y] H Q := ⟨a, xs, y, rfl, rfl, h1, hz, q⟩
theorem go_par3 {i j l : Nat} (q : t σ H (Par3 i j l n σ)) : tPar3 i j l t ⟨n, rt, b, c⟩ σ H := q
theorem go_par3k {i j l : Nat} (e : ((σ.set i (some v)).set j (some w)).set l (some u) = σ') (q : n σ' H) : Par3 i j l n σ [v, w, u] H := by subst e; exact ⟨v, w, u, rfl, q⟩
theorem go_fdX {m' n' : Nat} (h : n' ≠ 0 ∧ n'.log2 < 9000) (q : Q (.int ((m' / n' : Nat) : Int)) H) : rI CDivX (fun i j => .int (i.fdiv j)) (.int (m' : Int)) (.int (n' : Int)) H Q :=
  ⟨_, _, rfl, rfl, ⟨by omega, by rw [Int.natAbs_natCast]; exact h.2⟩, by
    show Q (.int ((m' : Int).fdiv (n' : Int))) H
    rw [Int.fdiv_eq_ediv_of_nonneg _ (by omega)]
    exact q⟩
/-- sorted -/
theorem go_sort {ks : List (List Int)} (d : Nat) (B : Int) (h1 : SqL K H a xs) (h2 : DpAll K H xs (ks.map tI)) (hd : 1 ≤ d) (hk : ∀ k ∈ ks, k.length = d ∧ TS.Bd B k)
    (q : ∀ (ys : List V) (js : List (List Int)) (p : Addr) (H' : Hp), js.Perm ks → js.Pairwise (fun x y => TS.code B x ≤ TS.code B y) → H p = none → Same H H' → H' p = some (.lst ys) → DpAll K H' ys (js.map tI) → Q (.ref p) H') : rSortT K [.ref a] H Q := ⟨a, xs, ks, d, B, rfl, h1, h2, hd, hk, q⟩
end
end Mv
set_option Elab.async false
set_option maxRecDepth 100000
namespace Mv
open PySem PySem.Spec PyProof.Rows L2
/-- C(e, .., k = v, ..): n values by place, the keywords ks -/
structure MaN (P : Program) (w : World) (K : PySem.W.Frag) (mg : Str → Option Value) (base : Heap) (k : Nat) (x : Str) (C : Addr) (sp : Sp) (n : Nat) (ks : List Str) (gV : List V → List V → List V) : Prop where
  ex : ∃ (f : Addr) (fd : FuncData) (ps : List Str) (g : List Value → List Value → List Value), Mk K C f ∧ FnOk P w K mg base CX0 k f fd ps sp ∧ mg x = some (.ref C) ∧ KBn K fd ps (n + 1) ks g gV
section
variable {X : Cx} {k j n : Nat} {C : Addr} {ks : List Str} {sp : Sp} {x : Str} {p pos : Pos} {e : Expr} {es : List Expr} {kws : List Keyword} {t tk : TA} {gV : List V → List V → List V}
theorem pe_man (c : MaN X.prog X.w X.K X.mg X.base k x C sp n ks gV) (hr : Room j X.A) (hk : k + 1 ≤ j) (hg : Gl X x) (ha : PA X (e :: es) t) (hkw : PK X kws tk)
    (hall : (backToKw pos (keywordEach kws X.env)).all (·.1.isSome) = true := by rfl) (hks : (backToKw pos (keywordEach kws X.env)).filterMap (·.1) = ks := by rfl)
    (hdb : (x == ("__debug__" : Str)) = false := by decide) (he : starEach (e :: es) X.env = (false, eval e X.env) :: starEach es X.env := by rfl)
    (hpl : ((backTo pos (starEach (e :: es) X.env)).any (·.1) || (backToKw pos (keywordEach kws X.env)).any (·.1.isNone)) = false := by rfl) :
    PE X (.Call (.Name x p) (e :: es) kws pos) (tMakeK C n ks.length sp gV E0 t tk) := by
  obtain ⟨f, fd, ps, g, M, F, hm, b⟩ := c.ex
  exact pe_makeK M F (hr.mono hk) hg hm b pass0 ha hkw hall hks hdb he hpl
end
section
variable {σ : L2.St} {H : Hp} {Q : VK} {t tk : TA} {C : Addr} {sp : Sp} {n m : Nat} {E : XK} {gV : List V → List V → List V}
/-- behind the keywords of a making -/
def MakK (C : Addr) (n m : Nat) (sp : Sp) (gV : List V → List V → List V) (E : XK) (Q : VK) (vs zs : List V) (H2 : Hp) : Prop := vs.length = n ∧ zs.length = m ∧ ∀ x dx, H2 x = none → H2 dx = none → dx ≠ x →
  sp (gV (.ref x :: vs) zs) (upd (upd H2 dx (.own x)) x (.ins C dx [])) (fun v H3 => v = .non ∧ Q (.ref x) H3) E
def MakA (C : Addr) (n m : Nat) (sp : Sp) (gV : List V → List V → List V) (E : XK) (Q : VK) (tk : TA) (σ : L2.St) (vs : List V) (H1 : Hp) : Prop := tk σ H1 fun zs H2 => MakK C n m sp gV E Q vs zs H2
theorem go_makeK (q : t σ H fun vs H1 => MakA C n m sp gV E Q tk σ vs H1) : tMakeK C n m sp gV E t tk σ H Q := q
theorem go_makA {vs : List V} (q : tk σ H fun zs H2 => MakK C n m sp gV E Q vs zs H2) : MakA C n m sp gV E Q tk σ vs H := q
theorem op_in_seq' {X : Cx} {K : PySem.W.Frag} (e : X.K = K := by (conv => lhs; whnf)) : OpR X (compareOp .In) (rIn K false) := by
  subst e
  exact op_in_seq
theorem op_notIn_seq' {X : Cx} {K : PySem.W.Frag} (e : X.K = K := by (conv => lhs; whnf)) : OpR X (compareOp .NotIn) (rIn K true) := by
  subst e
  exact op_notIn_seq
theorem DpAll.strsE {K : PySem.W.Frag} {H : Hp} : ∀ {xs : List V} {ss : List Str}, DpAll K H xs (ss.map PyData.str) → xs = ss.map V.str
  | _, [], .nil => rfl
  | _, i :: is, .cons a h => by rw [a.strE, DpAll.strsE h]; rfl
theorem in_strs (s : Str) (ss : List Str) : inV (.str s) (ss.map V.str) = decide (s ∈ ss) := by
  induction ss with
  | nil => rfl
  | cons a l ih =>
    show (eqV (.str a) (.str s) || inV (.str s) (l.map V.str)) = _
    rw [ih]
    show ((a == s) || _) = _
    by_cases h : a = s
    · subst h
      simp
    · have : (a == s) = false := by simpa using h
      rw [this]
      simp [Ne.symm h]
theorem flat_strs (ss : List Str) : (ss.map V.str).all flatV = true := by
  rw [List.all_eq_true]
  intro x hx
  obtain ⟨y, _, rfl⟩ := List.mem_map.mp hx
  rfl
/-- in, not in, of a list or tuple of texts -/
theorem go_inSL {K : PySem.W.Frag} {v : V} {s : Str} {ss : List Str} {neg : Bool} (h : Dp K H v (.list (ss.map .str))) (q : Q (.bl (if neg then !decide (s ∈ ss) else decide (s ∈ ss))) H) : rIn K neg (.str s) v H Q := by
  obtain ⟨a, xs, rfl, hs, ha⟩ := h.lstE
  obtain rfl := DpAll.strsE ha
  exact ⟨a, _, rfl, .inl hs, rfl, flat_strs ss, by rw [in_strs]; exact q⟩
theorem go_inSK {K : PySem.W.Frag} {b : Bool} {v : V} {s : Str} {ss : List Str} {neg : Bool} (h : Dp K H v (dSeq b (ss.map .str))) (q : Q (.bl (if neg then !decide (s ∈ ss) else decide (s ∈ ss))) H) : rIn K neg (.str s) v H Q := by
  cases b
  · obtain ⟨a, xs, rfl, hs, ha⟩ := Dp.tupE (show Dp K H v (.tuple _) from h)
    obtain rfl := DpAll.strsE ha
    exact ⟨a, _, rfl, .inr hs, rfl, flat_strs ss, by rw [in_strs]; exact q⟩
  · exact go_inSL h q
/-- the keywords behind the values by place -/
def gApp {α : Type} (us ws : List α) : List α := us ++ ws
theorem gApp_rel {vs zs : List V} {us ws : List Value} (r1 : Vals vs us) (r2 : Vals zs ws) : Vals (gApp vs zs) (gApp us ws) := r1.append r2
end
section
variable {K : PySem.W.Frag} {σ : L2.St} {H : Hp} {Q : VK} {vs : List Nat} {xs ys : List V} {te : TE} {g : TG} {a : Addr}
theorem pi_enumA' {X : Cx} {e : Expr} {ta : TA} {p pos tpos : Pos} {elts : List Expr} {kk : Nat} (hg : Gl X "enumerate") (hm : X.mg "enumerate" = none) (ha : PA X [e] ta) (eK : X.K = K := by (conv => lhs; whnf)) (hs : starEach [e] X.env = [(false, eval e X.env)] := by rfl) :
    PI X (.Tuple elts kk tpos) (.Call (.Name "enumerate" p) [e] [] pos) (iEnumA K ta) := by
  subst eK
  exact pi_enumA hg hm ha hs
/-- a comprehension over enumerate, of data without lists -/
theorem lcEnum {b : Bool} {i1 i2 : Nat} (f : Nat → PyData) (ha : SqK b K H a xs) (hk : ∀ H', Same H H' → SqK b K H' a xs) (hz : xs.length ≤ 100000) (hl : ∀ i, i < xs.length → NL (f i) = true) (hw : ∀ x y, wipe (((wipe σ vs).set i1 (some x)).set i2 (some y)) vs = wipe σ vs)
    (hs : ∀ (i : Nat) (x : V) (H1 : Hp) (Q' : VK), i < xs.length → xs[i]? = some x → Same H H1 → (∀ y H4, Same H1 H4 → Dp K H4 y (f i) → Q' y H4) → te (((wipe σ vs).set i1 (some (.int (i : Int)))).set i2 (some x)) H1 Q')
    (hd : ∀ D H' ys, H D = none → Same H H' → H' D = some (.lst ys) → DpAll K H' ys ((List.range xs.length).map f) → Q (.ref D) H') : LcR (gTup K 2 (gCons (gName i1) (gCons (gName i2) gNil))) tYes te vs σ Q (IteK b K a) H :=
  lcGen walk_enumK f hz hl (fun H' s => hk H' s) (fun i x H1 H2 Q' hi s1 hy hq => by
    obtain ⟨T, x', y', rfl, hT, rfl, e1, e2⟩ := hy
    obtain rfl := Option.some.inj e1
    have sT : Same H1 (upd H1 T (.tup [.int (i : Nat), y'])) := same_new hT
    refine ⟨T, _, rfl, .inl (.inl upd_same), rfl, _, _, rfl, _, _, rfl, rfl, hw _ _, hs i y' _ Q' hi e2 (s1.trans sT) fun y H4 s4 dy => hq y H4 (sT.trans s4) dy⟩) hd gTup2_mono
/-- a comprehension of objects: what holds of each stays when the heap grows, and when the list in making changes -/
theorem lcObj {J : It} {k : Nat} {G : Hp → Prop} {Y : Nat → Hp → V → Hp → Prop} (w : Walk J k G Y) (Rp : Nat → V → Hp → Prop) (hz : k ≤ 100000) (hm : ∀ i y H1 H2, Same H1 H2 → Rp i y H1 → Rp i y H2) (hu : ∀ i y H1 D zs o, H1 D = some (.lst zs) → Rp i y H1 → Rp i y (upd H1 D o)) (hG : ∀ H', Same H H' → G H')
    (hs : ∀ (i : Nat) (x : V) (H1 H2 : Hp) (Q' : VK), i < k → Same H H1 → Y i H1 x H2 → (∀ y H4, Same H1 H4 → Rp i y H4 → Q' y H4) → g x (wipe σ vs) H2 fun σ2 H3 => wipe σ2 vs = wipe σ vs ∧ te σ2 H3 Q')
    (hd : ∀ D H' ys, H D = none → Same H H' → H' D = some (.lst ys) → ys.length = k → (∀ (i : Nat) y, ys[i]? = some y → Rp i y H') → Q (.ref D) H') (hg : ∀ x σ' H' (P Q : L2.St → Hp → Prop), (∀ σ2 H2, P σ2 H2 → Q σ2 H2) → g x σ' H' P → g x σ' H' Q) : LcR g tYes te vs σ Q J H := by
  intro D hD
  refine lc_it w (fun i H' => Same H H' ∧ ∃ ys, H' D = some (.lst ys) ∧ ys.length = i ∧ ∀ (i : Nat) y, ys[i]? = some y → Rp i y H') ⟨same_new hD, [], upd_same, rfl, fun i y h => by simp at h⟩ (fun i H' _ h => hG H' h.1) ?_ ?_
  · rintro i x H1 H2 hi ⟨s, ys, ed, hlen, ha⟩ hy
    refine hg x _ H2 _ _ (fun σ2 H2 h => ⟨h.1, h.2⟩) (hs i x H1 H2 (fun y H4 => ∃ acc, H4 D = some (.lst acc) ∧ acc.length < sizeLine ∧ Same H (upd H4 D (.lst (acc ++ [y]))) ∧ ∃ ys, upd H4 D (.lst (acc ++ [y])) D = some (.lst ys) ∧ ys.length = i + 1 ∧ ∀ (i : Nat) z, ys[i]? = some z → Rp i z (upd H4 D (.lst (acc ++ [y])))) hi s hy fun y H4 s4 ry => ?_)
    have e4 := s4 _ _ ed
    refine ⟨ys, e4, ?_, same_over (s.trans s4) hD, ys ++ [y], upd_same, by simp [hlen], fun j z hz' => ?_⟩
    · rw [hlen]; unfold sizeLine; omega
    · rcases Nat.lt_trichotomy j ys.length with c | c | c
      · rw [List.getElem?_append_left c] at hz'
        exact hu _ _ _ _ _ _ e4 (hm _ _ _ _ s4 (ha j z hz'))
      · subst c
        rw [List.getElem?_append_right (Nat.le_refl _), Nat.sub_self] at hz'
        obtain rfl := Option.some.inj hz'
        rw [hlen]
        exact hu _ _ _ _ _ _ e4 ry
      · rw [List.getElem?_eq_none (by simp; omega)] at hz'
        cases hz'
  · rintro H1 ⟨s, ys, ed, hlen, ha⟩
    exact hd D H1 ys hD s ed hlen ha
/-- a comprehension with a test over a tuple: what is kept is not told -/
theorem lcFilT {j : Nat} {tt : TT} (ha : SqT K H a xs) (hz : xs.length ≤ 100000) (hw : ∀ x, wipe ((wipe σ vs).set j (some x)) vs = wipe σ vs)
    (ht : ∀ (i : Nat) (x : V) (H1 : Hp) (R : Bool → Hp → Prop), i < xs.length → xs[i]? = some x → Same H H1 → (∀ b H2, Same H1 H2 → R b H2) → tt ((wipe σ vs).set j (some x)) H1 R)
    (he : ∀ (i : Nat) (x : V) (H1 : Hp) (Q' : VK), i < xs.length → xs[i]? = some x → Same H H1 → (∀ y H2, Same H1 H2 → Q' y H2) → te ((wipe σ vs).set j (some x)) H1 Q')
    (hd : ∀ D H' ys, H D = none → Same H H' → H' D = some (.lst ys) → Q (.ref D) H') : LcR (gName j) tt te vs σ Q (Itt K a) H := by
  intro D hD
  refine lc_it walk_tup (fun i H' => Same H H' ∧ ∃ ys, H' D = some (.lst ys) ∧ ys.length ≤ i) ⟨same_new hD, [], upd_same, Nat.le_refl _⟩ (fun i H' _ h => Same.tup h.1 ha) ?_ ?_
  · rintro i x H1 H2 hi ⟨s, ys, ed, hlen⟩ ⟨rfl, hx⟩
    refine ⟨hw _, ht i x _ _ hi hx s fun b H3 s3 => ?_⟩
    cases b with
    | false => exact ⟨s.trans s3, ys, s3 _ _ ed, by omega⟩
    | true =>
      refine he i x _ _ hi hx (s.trans s3) fun y H4 s4 => ⟨ys, s4 _ _ (s3 _ _ ed), by unfold sizeLine; omega, same_over ((s.trans s3).trans s4) hD, ys ++ [y], upd_same, by simp; omega⟩
  · rintro H1 ⟨s, ys, ed, _⟩
    exact hd D H1 ys hD s ed
/-- a comprehension with a test over a tuple, the items themselves kept: a part of the tuple, in its order -/
theorem lcFilTs {j : Nat} {tt : TT} (ha : SqT K H a xs) (hz : xs.length ≤ 100000) (hw : ∀ x, wipe ((wipe σ vs).set j (some x)) vs = wipe σ vs)
    (ht : ∀ (i : Nat) (x : V) (H1 : Hp) (R : Bool → Hp → Prop), i < xs.length → xs[i]? = some x → Same H H1 → (∀ b H2, Same H1 H2 → R b H2) → tt ((wipe σ vs).set j (some x)) H1 R)
    (he : ∀ (i : Nat) (x : V) (H1 : Hp) (Q' : VK), i < xs.length → xs[i]? = some x → Same H H1 → (∀ H2, Same H1 H2 → Q' x H2) → te ((wipe σ vs).set j (some x)) H1 Q')
    (hd : ∀ D H' ys, H D = none → Same H H' → H' D = some (.lst ys) → ys.Sublist xs → Q (.ref D) H') : LcR (gName j) tt te vs σ Q (Itt K a) H := by
  intro D hD
  refine lc_it walk_tup (fun i H' => Same H H' ∧ ∃ ys, H' D = some (.lst ys) ∧ ys.Sublist (xs.take i)) ⟨same_new hD, [], upd_same, List.nil_sublist _⟩ (fun i H' _ h => Same.tup h.1 ha) ?_ ?_
  · rintro i x H1 H2 hi ⟨s, ys, ed, hs⟩ ⟨rfl, hx⟩
    have et : xs.take (i + 1) = xs.take i ++ [x] := by rw [List.take_add_one, hx]; rfl
    refine ⟨hw _, ht i x _ _ hi hx s fun b H3 s3 => ?_⟩
    cases b with
    | false => exact ⟨s.trans s3, ys, s3 _ _ ed, by rw [et]; exact hs.trans (List.sublist_append_left ..)⟩
    | true =>
      have hl : ys.length < sizeLine := by
        have := hs.length_le
        rw [List.length_take] at this
        unfold sizeLine
        omega
      refine he i x _ _ hi hx (s.trans s3) fun H4 s4 => ⟨ys, s4 _ _ (s3 _ _ ed), hl, same_over ((s.trans s3).trans s4) hD, ys ++ [x], upd_same, by rw [et]; exact hs.append (.refl _)⟩
  · rintro H1 ⟨s, ys, ed, hs⟩
    exact hd D H1 ys hD s ed (by rw [List.take_length] at hs; exact hs)
end
end Mv
set_option Elab.async false
set_option maxRecDepth 100000
/-! A dict changes: for the steps. -/
namespace Mv
open PySem PySem.Spec PyProof.Rows L2
/-- the dict at D may change, nothing else that was -/
def Bd (D : Addr) (H H' : Hp) : Prop := (∃ kvs, H D = some (.dK kvs)) ∧ Bu D H H'
def DgR (ty : TE) (σ : L2.St) (Q : VK) : VK := fun x H1 => ty σ H1 fun y H2 => ∃ a v, x = .ref a ∧ DGet H2 a y (some v) ∧ Q v H2
def DnR (td : TE) (σ : L2.St) (Q : VK) : VK := fun y H1 => td σ H1 fun x H2 => ∃ a o, x = .ref a ∧ DGet H2 a y o ∧ Q (.bl (!o.isSome)) H2
def DpR (td ty : TE) (σ : L2.St) (n : L2.St → Hp → Prop) : VK := fun v H1 => td σ H1 fun x H2 => ty σ H2 fun y H3 => ∃ a H4, x = .ref a ∧ DPut H3 a y v H4 ∧ n σ H4
section
variable {K : PySem.W.Frag} {σ : L2.St} {H H' : Hp} {Q : VK} {n b c : L2.St → Hp → Prop} {rt : VK} {x y v : V} {xs ys : List V} {td tv ty : TE} {a p q C dx D : Addr} {fs : List (Str × V)} {d : PyData} {ds : List PyData} {vs : List V} {kvs : List (Key × V)}
theorem bd_sqt (s : Bd D H H') (h : SqT K H p xs) : SqT K H' p xs := by
  obtain ⟨⟨z, e⟩, b⟩ := s
  rcases h with (h | ⟨o, h⟩) | h
  · exact .inl (.inl (b p _ (fun z => by rw [z, e] at h; cases h) h))
  · exact .inl (.inr ⟨o, b p _ (fun z => by rw [z, e] at h; cases h) h⟩)
  · exact .inr h
theorem bd_sql (s : Bd D H H') (h : SqL K H p xs) : SqL K H' p xs := by
  obtain ⟨⟨z, e⟩, b⟩ := s
  rcases h with (h | ⟨o, h⟩) | h
  · exact .inl (.inl (b p _ (fun z => by rw [z, e] at h; cases h) h))
  · exact .inl (.inr ⟨o, b p _ (fun z => by rw [z, e] at h; cases h) h⟩)
  · exact .inr h
theorem bd_gett (s : Bd D H H') (h : H p = some (.tup xs)) : H' p = some (.tup xs) := by
  obtain ⟨⟨z, e⟩, b⟩ := s
  exact b p _ (fun z => by rw [z, e] at h; cases h) h
theorem bd_getl (s : Bd D H H') (h : H p = some (.lst xs)) : H' p = some (.lst xs) := by
  obtain ⟨⟨z, e⟩, b⟩ := s
  exact b p _ (fun z => by rw [z, e] at h; cases h) h
theorem bd_geti (s : Bd D H H') (h : H p = some (.ins C dx fs)) : H' p = some (.ins C dx fs) := by
  obtain ⟨⟨z, e⟩, b⟩ := s
  exact b p _ (fun z => by rw [z, e] at h; cases h) h
theorem bd_getd (s : Bd D H H') (hne : p ≠ D) (h : H p = some (.dK kvs)) : H' p = some (.dK kvs) := s.2 p _ hne h
theorem bd_pot (s : Bd D H H') (h : Pot H p) : Pot H' p := by
  obtain ⟨x, y, e, r⟩ := h.ex
  exact ⟨x, y, bd_getl s e, r⟩
mutual
theorem bd_dp' (s : Bd D H H') : ∀ (d : PyData) (v : V), Dp K H v d → Dp K H' v d
  | .none, _, h => by cases h; exact .non
  | .bool b, _, h => by cases h; exact .bl b
  | .int i, _, h => by cases h; exact .int i
  | .str x, _, h => by cases h; exact .str x
  | .list ds, _, h => by
    cases h with
    | lst hs ha => exact .lst (bd_sql s hs) (bd_dpa' s ds _ ha)
  | .tuple ds, _, h => by
    cases h with
    | tup hs ha => exact .tup (bd_sqt s hs) (bd_dpa' s ds _ ha)
  | .dict _, _, h => by cases h
theorem bd_dpa' (s : Bd D H H') : ∀ (ds : List PyData) (vs : List V), DpAll K H vs ds → DpAll K H' vs ds
  | [], _, h => by cases h; exact .nil
  | d :: ds, _, h => by
    cases h with
    | cons h1 h2 => exact .cons (bd_dp' s d _ h1) (bd_dpa' s ds _ h2)
end
theorem bd_dp (s : Bd D H H') (h : Dp K H v d) : Dp K H' v d := bd_dp' s d v h
theorem bd_dpa (s : Bd D H H') (h : DpAll K H vs ds) : DpAll K H' vs ds := bd_dpa' s ds vs h
theorem bd_refl (h : H D = some (.dK kvs)) : Bd D H H := ⟨⟨kvs, h⟩, Bu.refl _ _⟩
theorem Bd.up {H0 : Hp} (h : Bd D H0 H) (s : Same H H') : Bd D H0 H' := ⟨h.1, h.2.trans (Bu.of s D)⟩
theorem up_bd {H0 : Hp} (s : Same H H') (h : Bd D H0 H) : Bd D H0 H' := h.up s
theorem bd_bd {H0 : Hp} (s : Bd D H H') (h : Bd D H0 H) : Bd D H0 H' := ⟨h.1, h.2.trans s.2⟩
/-! steps -/
theorem go_dget (q : td σ H (DgR ty σ Q)) : tDGet td ty σ H Q := q
theorem go_dgr (q : ty σ H fun y H2 => ∃ a v, x = .ref a ∧ DGet H2 a y (some v) ∧ Q v H2) : DgR ty σ Q x H := q
theorem go_dnotin (q : ty σ H (DnR td σ Q)) : tDNotIn ty td σ H Q := q
theorem go_dnr (q : td σ H fun x H2 => ∃ a o, x = .ref a ∧ DGet H2 a y o ∧ Q (.bl (!o.isSome)) H2) : DnR td σ Q y H := q
theorem go_dput (q : tv σ H (DpR td ty σ n)) : sDPut td ty tv ⟨n, rt, b, c⟩ σ H := q
theorem go_dpr (q : td σ H fun x H2 => ty σ H2 fun y H3 => ∃ a H4, x = .ref a ∧ DPut H3 a y v H4 ∧ n σ H4) : DpR td ty σ n v H := q
/-- a number or a text as key -/
theorem dg_int {i : Int} (h : H D = some (.dK kvs)) : DGet H D (.int i) (valV kvs (.inl i)) := DGet.k (k := .inl i) h
theorem dg_str {s : Str} (h : H D = some (.dK kvs)) : DGet H D (.str s) (valV kvs (.inr s)) := DGet.k (k := .inr s) h
theorem dp_int {i : Int} (h : H D = some (.dK kvs)) (hl : kvs.length < sizeLine) : DPut H D (.int i) v (upd H D (.dK (putK kvs (.inl i) v))) := DPut.k (k := .inl i) h hl
theorem dp_str {s : Str} (h : H D = some (.dK kvs)) (hl : kvs.length < sizeLine) : DPut H D (.str s) v (upd H D (.dK (putK kvs (.inr s) v))) := DPut.k (k := .inr s) h hl
theorem bd_set {o : HO} (h : H D = some (.dK kvs)) : Bd D H (upd H D o) := ⟨⟨kvs, h⟩, Bu.set⟩
end
theorem units1 {j : Nat} {A : Around} (h : Room j A) : A.units + 1 < cLine := Nat.lt_of_le_of_lt (Nat.add_le_add_left (by decide) _) h.units
end Mv
set_option Elab.async false
set_option maxRecDepth 100000
set_option maxHeartbeats 4000000
/-! Data that no pot is; dicts written out; items set; lists of ranges; comprehensions of objects with draws. -/
namespace Mv
open PySem PySem.Spec PyProof.Rows L2
/-- a list of two numbers -/
def isPt : List PyData → Bool
  | [.int _, .int _] => true
  | _ => false
mutual
/-- no list in it looks like a pot -/
def PF : PyData → Bool
  | .none | .bool _ | .int _ | .str _ => true
  | .dict _ => false
  | .list xs => !isPt xs && PFs xs
  | .tuple xs => PFs xs
def PFs : List PyData → Bool
  | [] => true
  | x :: xs => PF x && PFs xs
end
section
variable {K : PySem.W.Frag} {H H' : Hp} {p : Addr}
theorem isPt_of {ds : List PyData} {x y : Int} (h : DpAll K H [.int x, .int y] ds) : isPt ds = true := by
  cases h with
  | cons a b =>
    cases b with
    | cons b c =>
      cases c
      cases a
      cases b
      rfl
mutual
theorem pf_dp' (b : Bu p H H') (hp : Pot H p) : ∀ (d : PyData) (v : V), PF d = true → Dp K H v d → Dp K H' v d
  | .none, _, _, h => by cases h; exact .non
  | .bool b, _, _, h => by cases h; exact .bl b
  | .int i, _, _, h => by cases h; exact .int i
  | .str x, _, _, h => by cases h; exact .str x
  | .list ds, _, n, h => by
    have n' : isPt ds = false ∧ PFs ds = true := by simpa [PF] using n
    cases h with
    | lst hs ha =>
      obtain ⟨x, y, ep, _⟩ := hp.ex
      refine .lst ?_ (pf_dpa' b hp ds _ n'.2 ha)
      rcases hs with (h | ⟨o, h⟩) | h
      · exact .inl (.inl (b _ _ (fun z => by
          rw [z, ep] at h
          cases h
          have := isPt_of ha
          rw [n'.1] at this
          cases this) h))
      · exact .inl (.inr ⟨o, b _ _ (fun z => by rw [z, ep] at h; cases h) h⟩)
      · exact .inr h
  | .tuple ds, _, n, h => by
    have n' : PFs ds = true := by simpa [PF] using n
    cases h with
    | tup hs ha =>
      obtain ⟨ys, ep⟩ := hp.lst
      exact .tup (b.sqt ep hs) (pf_dpa' b hp ds _ n' ha)
  | .dict _, _, _, h => by cases h
theorem pf_dpa' (b : Bu p H H') (hp : Pot H p) : ∀ (ds : List PyData) (vs : List V), PFs ds = true → DpAll K H vs ds → DpAll K H' vs ds
  | [], _, _, h => by cases h; exact .nil
  | d :: ds, _, n, h => by
    have n' : PF d = true ∧ PFs ds = true := by simpa [PFs] using n
    cases h with
    | cons h1 h2 => exact .cons (pf_dp' b hp d _ n'.1 h1) (pf_dpa' b hp ds _ n'.2 h2)
end
theorem pf_dp {v : V} {d : PyData} (b : Bu p H H') (hp : Pot H p) (hn : PF d = true) (h : Dp K H v d) : Dp K H' v d := pf_dp' b hp d v hn h
theorem PFs.of : ∀ {ds : List PyData}, (∀ d ∈ ds, PF d = true) → PFs ds = true
  | [], _ => rfl
  | d :: ds, h => by
    have := PFs.of (ds := ds) fun x hx => h x (List.mem_cons_of_mem _ hx)
    simp [PFs, h d (List.mem_cons_self ..), this]
theorem PF.list {ds : List PyData} (hn : isPt ds = false) (h : ∀ d ∈ ds, PF d = true) : PF (.list ds) = true := by simp [PF, hn, PFs.of h]
theorem bu_getd {kvs : List (Key × V)} {a : Addr} (s : Bu p H H') (hp : Pot H p) (h : H a = some (.dK kvs)) : H' a = some (.dK kvs) := s _ _ (fun e => by obtain ⟨ys, z⟩ := hp.lst; rw [e, z] at h; cases h) h
theorem bd_bup {q : Addr} {H0 : Hp} (s : Bd q H H') (n : H0 q = none) (h : Bu p H0 H) : Bu p H0 H' := fun c o nc e => s.2 c o (fun z => by rw [z, n] at e; cases e) (h c o nc e)
theorem bd_same {q : Addr} {H0 : Hp} (s : Bd q H H') (n : H0 q = none) (h : Same H0 H) : Same H0 H' := fun c o e => s.2 c o (fun z => by rw [z, n] at e; cases e) (h c o e)
end
section
variable {K : PySem.W.Frag} {σ : L2.St} {H H' : Hp} {Q : VK} {p D : Addr} {td ty te to ti tk tv ta tb : TE} {x y v : V} {xs : List V} {kvs : List (Key × V)} {trs : List (TE × TE)} {QP : List (V × V) → Hp → Prop}
/-! dicts -/
def DgK (x : V) (Q : VK) : VK := fun y H2 => ∃ a v, x = .ref a ∧ DGet H2 a y (some v) ∧ Q v H2
theorem go_dgr2 (q : ty σ H (DgK x Q)) : DgR ty σ Q x H := q
theorem go_dgk {s : Str} (h : H D = some (.dK kvs)) (e : valV kvs (.inr s) = some v) (q : Q v H) : DgK (.ref D) Q (.str s) H := ⟨D, v, rfl, by have := dg_str (s := s) h; rw [e] at this; exact this, q⟩
def DpK (x v : V) (σ : L2.St) (n : L2.St → Hp → Prop) : VK := fun y H3 => ∃ a H4, x = .ref a ∧ DPut H3 a y v H4 ∧ n σ H4
def DpT (ty : TE) (v : V) (σ : L2.St) (n : L2.St → Hp → Prop) : VK := fun x H2 => ty σ H2 (DpK x v σ n)
theorem go_dpr2 {n : L2.St → Hp → Prop} (q : td σ H (DpT ty v σ n)) : DpR td ty σ n v H := q
theorem go_dpt {n : L2.St → Hp → Prop} (q : ty σ H (DpK x v σ n)) : DpT ty v σ n x H := q
theorem go_dpk {s : Str} {n : L2.St → Hp → Prop} (h : H D = some (.dK kvs)) (hl : kvs.length < sizeLine) (q : ∀ H', Bd D H H' → H' D = some (.dK (putK kvs (.inr s) v)) → n σ H') : DpK (.ref D) v σ n (.str s) H :=
  ⟨D, _, rfl, dp_str h hl, q _ (bd_set h) upd_same⟩
def DsK (p : Addr) (Q : VK) : List (V × V) → Hp → Prop := fun ps H2 => H2 p = some (.dK []) ∧ ∃ kvs : List (Key × V), ps = kvs.map (fun kv => (kV kv.1, kv.2)) ∧ kvs.length ≤ 15 ∧ Q (.ref p) (upd H2 p (.dK (mergeK [] kvs)))
theorem go_disp (q : ∀ p H', H p = none → Same H H' → H' p = some (.dK []) → tPairs trs σ H' (DsK p Q)) : tDisp trs σ H Q := fun p hp => q p _ hp (same_new hp) upd_same
theorem go_pnil (q : QP [] H) : tPairs [] σ H QP := q
theorem go_pcons (q : tk σ H fun x H1 => tv σ H1 fun y H2 => tPairs trs σ H2 fun ps H3 => QP ((x, y) :: ps) H3) : tPairs ((tk, tv) :: trs) σ H QP := q
theorem go_dsk2 {k1 k2 : Str} {v1 v2 : V} (h : H p = some (.dK [])) (q : ∀ H', Bd p H H' → H' p = some (.dK (mergeK [] [(.inr k1, v1), (.inr k2, v2)])) → Q (.ref p) H') : DsK p Q [(.str k1, v1), (.str k2, v2)] H :=
  ⟨h, [(.inr k1, v1), (.inr k2, v2)], rfl, by show 2 ≤ 15; decide, q _ (bd_set h) upd_same⟩
/-! x[i] = v -/
def SiR (t : TSet) (v : V) (ti : TE) (σ : L2.St) (QS : L2.St → Hp → Prop) : VK := fun o H1 => ti σ H1 fun i H2 => t o i v H2 fun H3 => QS σ H3
theorem go_gsub {t : TSet} {QS : L2.St → Hp → Prop} (q : to σ H (SiR t v ti σ QS)) : gSub to ti t v σ H QS := q
theorem go_sir {t : TSet} {QS : L2.St → Hp → Prop} (q : ti σ H fun i H2 => t x i v H2 fun H3 => QS σ H3) : SiR t v ti σ QS x H := q
theorem go_setL {k : Nat} {QH : Hp → Prop} (h : H p = some (.lst xs)) (hk : k < xs.length) (q : QH (upd H p (.lst (xs.set k v)))) : rSetL (.ref p) (.int (k : Int)) v H QH :=
  ⟨p, xs, k, k, rfl, rfl, h, by unfold ixN; simp; omega, q⟩
/-! list(range(..)) -/
def LrR (Q : VK) : Int → Int → Hp → Prop := fun a b H1 => RgOk a b ∧ ∀ q, H1 q = none → Q (.ref q) (upd H1 q (.lst (rgV a b)))
def RgE (x : V) (R : Int → Int → Hp → Prop) : VK := fun y H2 => ∃ i j, x = .int i ∧ y = .int j ∧ R i j H2
theorem go_lrg {tr : L2.St → Hp → (Int → Int → Hp → Prop) → Prop} (q : tr σ H (LrR Q)) : tLstRg tr σ H Q := q
theorem go_rgt2 {R : Int → Int → Hp → Prop} (q : ta σ H fun x H1 => tb σ H1 (RgE x R)) : tRg2 ta tb σ H R := q
theorem go_rge {i j : Int} {R : Int → Int → Hp → Prop} (q : R i j H) : RgE (.int i) R (.int j) H := ⟨i, j, rfl, rfl, q⟩
theorem go_lrr {i j : Nat} (hj : j ≤ 100000) (hi : i ≤ j) (q : ∀ l H', H l = none → Same H H' → H' l = some (.lst ((List.range (j - i)).map fun k => V.int ((i + k : Nat) : Int))) → Q (.ref l) H') : LrR Q (i : Int) (j : Int) H := by
  have e : rgV (i : Int) (j : Int) = (List.range (j - i)).map fun k => V.int ((i + k : Nat) : Int) := by
    unfold rgV
    rw [show ((j : Int) - (i : Int)).toNat = j - i by omega]
    exact List.map_congr_left fun k _ => by rw [Int.natCast_add]
  refine ⟨RgOk.of_le (by omega) (by omega) (by omega) (by omega), fun l hl => ?_⟩
  exact q l _ hl (same_new hl) (by rw [upd_same, e])
/-! x[::-1] -/
theorem pe_revL' {X : Cx} {e : Expr} {te : TE} {k : Nat} {p1 p2 p3 pos : Pos} (he : PE X e te) (eK : X.K = K := by (conv => lhs; whnf)) : PE X (.Subscript e (.Slice none none (some (.UnaryOp .USub (.Constant (.int 1) k p1) p2)) p3) pos) (tRevL K te) := by
  subst eK
  exact pe_revL he
def RvL (K : PySem.W.Frag) (Q : VK) : VK := fun x H1 => ∃ a xs, x = .ref a ∧ SqL K H1 a xs ∧ ∀ p, H1 p = none → Q (.ref p) (upd H1 p (.lst xs.reverse))
theorem go_revl (q : te σ H (RvL K Q)) : tRevL K te σ H Q := q
theorem go_rvl {a : Addr} (h : SqL K H a xs) (q : ∀ p H', H p = none → Same H H' → H' p = some (.lst xs.reverse) → Q (.ref p) H') : RvL K Q (.ref a) H := ⟨a, xs, rfl, h, fun p hp => q p _ hp (same_new hp) upd_same⟩
/-! comprehensions of objects, with draws -/
theorem lcObjB {J : It} {k : Nat} {G : Hp → Prop} {Y : Nat → Hp → V → Hp → Prop} {g : TG} {vs : List Nat} (w : Walk J k G Y) (Rp : Nat → V → Hp → Prop) (hp : Pot H p) (hz : k ≤ 100000) (hm : ∀ i y H1 H2, Pot H1 p → Bu p H1 H2 → Rp i y H1 → Rp i y H2) (hu : ∀ i y H1 D zs o, H1 D = some (.lst zs) → Rp i y H1 → Rp i y (upd H1 D o)) (hG : ∀ H', Bu p H H' → G H')
    (hs : ∀ (i : Nat) (x : V) (H1 H2 : Hp) (Q' : VK), i < k → Pot H1 p → Bu p H H1 → Y i H1 x H2 → (∀ y H4, Pot H4 p → Bu p H1 H4 → Rp i y H4 → Q' y H4) → g x (wipe σ vs) H2 fun σ2 H3 => wipe σ2 vs = wipe σ vs ∧ te σ2 H3 Q')
    (hd : ∀ D H' ys, H D = none → Pot H' p → Bu p H H' → H' D = some (.lst ys) → ys.length = k → (∀ (i : Nat) y, ys[i]? = some y → Rp i y H') → Q (.ref D) H') (hg : ∀ x σ' H' (P Q : L2.St → Hp → Prop), (∀ σ2 H2, P σ2 H2 → Q σ2 H2) → g x σ' H' P → g x σ' H' Q) : LcR g tYes te vs σ Q J H := by
  intro D hD
  have hne : D ≠ p := hp.ne hD
  refine lc_it w (fun i H' => Bu p H H' ∧ Pot H' p ∧ ∃ ys, H' D = some (.lst ys) ∧ ys.length = i ∧ ∀ (i : Nat) y, ys[i]? = some y → Rp i y H') ⟨Bu.new hD, hp.upd hne, [], upd_same, rfl, fun i y h => by simp at h⟩ (fun i H' _ h => hG H' h.1) ?_ ?_
  · rintro i x H1 H2 hi ⟨b1, p1, ys, ed, hlen, ha⟩ hy
    refine hg x _ H2 _ _ (fun σ2 H2 h => ⟨h.1, h.2⟩) (hs i x H1 H2 (fun y H4 => ∃ acc, H4 D = some (.lst acc) ∧ acc.length < sizeLine ∧ Bu p H (upd H4 D (.lst (acc ++ [y]))) ∧ Pot (upd H4 D (.lst (acc ++ [y]))) p ∧ ∃ ys, upd H4 D (.lst (acc ++ [y])) D = some (.lst ys) ∧ ys.length = i + 1 ∧ ∀ (i : Nat) z, ys[i]? = some z → Rp i z (upd H4 D (.lst (acc ++ [y])))) hi p1 b1 hy fun y H4 p4 b4 ry => ?_)
    have e4 := b4 _ _ hne ed
    refine ⟨ys, e4, ?_, ?_, p4.upd hne, ys ++ [y], upd_same, by simp [hlen], fun j z hz' => ?_⟩
    · rw [hlen]; unfold sizeLine; omega
    · intro b o nb e
      rw [upd_ne (ne_of_none e hD)]
      exact (b1.trans b4) b o nb e
    · rcases Nat.lt_trichotomy j ys.length with c | c | c
      · rw [List.getElem?_append_left c] at hz'
        exact hu _ _ _ _ _ _ e4 (hm _ _ _ _ p1 b4 (ha j z hz'))
      · subst c
        rw [List.getElem?_append_right (Nat.le_refl _), Nat.sub_self] at hz'
        obtain rfl := Option.some.inj hz'
        rw [hlen]
        exact hu _ _ _ _ _ _ e4 ry
      · rw [List.getElem?_eq_none (by simp; omega)] at hz'
        cases hz'
  · rintro H1 ⟨b1, p1, ys, ed, hlen, ha⟩
    exact hd D H1 ys hD p1 b1 ed hlen ha
end
end Mv
set_option Elab.async false
set_option maxRecDepth 100000
set_option maxHeartbeats 4000000
/-! Class methods; cls(..). -/
namespace Mv
open PySem PySem.Spec PyProof.Rows L2
/-- C.m(..), m a class method: n values by place (the class among them), keywords ks -/
structure CmK (P : Program) (w : World) (K : PySem.W.Frag) (mg : Str → Option Value) (base : Heap) (k : Nat) (C : Addr) (m : Str) (sp : Sp) (n : Nat) (ks : List Str) (gV : List V → List V → List V) : Prop where
  ex : ∃ (f p : Addr) (mc : Value) (fd : FuncData) (ps : List Str) (g : List Value → List Value → List Value), ClX.CRead K C mc ∧ ClX.CMet K C mc m p f ∧ FnOk P w K mg base CX0 k f fd ps sp ∧ KBn K fd ps n ks g gV
def tCmA (C : Addr) (n : Nat) (sp : Sp) (gV : List V → List V → List V) (to : TE) (t : TA) : TE := fun σ H Q => to σ H fun x H1 => x = .ref C ∧ t σ H1 fun vs H2 => vs.length + 1 = n ∧ sp (gV (.ref C :: vs) []) H2 Q E0
def tCmK (C : Addr) (m : Nat) (sp : Sp) (gV : List V → List V → List V) (to : TE) (tk : TA) : TE := fun σ H Q => to σ H fun x H1 => x = .ref C ∧ tk σ H1 fun zs H2 => zs.length = m ∧ sp (gV [.ref C] zs) H2 Q E0
section
variable {X : Cx} {k j n : Nat} {C f : Addr} {sp : Sp} {fd : FuncData} {ps ks : List Str} {g : List Value → List Value → List Value} {gV : List V → List V → List V} {o e : Expr} {es : List Expr} {kws : List Keyword} {m x : Str} {p pos apos : Pos} {ta to : TE} {t tk : TA} {pl : Sem Bool}
theorem run_cmk {pins : List (Addr × Obj)} {σ : L2.St} {H : Hp} {s : Shared} {Q : VK} {us ws : List Value} {vs zs : List V} {q : Addr} (F : FnOk X.prog X.w X.K X.mg X.base CX0 k f fd ps sp) (hr : Room k X.A) (hb : KBn X.K fd ps n ks g gV)
    (I : Inv X ((q, PySem.W.methodObj (.ref f) (.ref C)) :: pins) σ H s) (r : Vals vs us) (rz : Vals zs ws) (l1 : vs.length + 1 = n) (l2 : zs.length = ks.length) (h : sp (gV (.ref C :: vs) zs) H Q E0) : wpAny (model X.prog X.w) X.A (call (.ref q) us (ks.zip ws)) (EP X pins σ Q) X.xe s := by
  have z : wpAny (model X.prog X.w) X.A (call (.ref q) us (ks.zip ws)) (EP X ((q, PySem.W.methodObj (.ref f) (.ref C)) :: pins) σ Q) X.xe s := by
    refine wpAny_call (PySem.W.method_call (ClX.pin_at I) (codeAny_mono (F.run X.A X.stack s H ⟨.ref C :: us, ks.zip ws⟩ (g (.ref C :: us) ws) (gV (.ref C :: vs) zs) Q E0 hr I.env0 (hb.to s (.ref C :: us) ws I.kIn (by rw [List.length_cons, ← r.length]; exact l1) (rz.length.symm.trans l2)) (hb.rel (.cons rfl r) rz) h) fun r s' hq => ?_))
    cases r with
    | error e => exact False.elim hq
    | ok fl =>
      cases fl with
      | ret u => exact I.after hq
      | next => exact False.elim hq
      | brk => exact False.elim hq
      | cont => exact False.elim hq
  exact thn z fun _ _ y => ClX.unpinE y
theorem pe_cmA (c : CmK X.prog X.w X.K X.mg X.base k C m sp n [] gV) (hr : Room j X.A) (hk : k ≤ j) (he : PE X o to) (ha : PA X (e :: es) t)
    (hst : starEach (e :: es) X.env = (false, eval e X.env) :: starEach es X.env := by rfl) (hpl : (backTo pos (starEach es X.env)).any (·.1) = false := by rfl)
    (ht : eval (.Call (.Attribute o m apos) (e :: es) [] pos) X.env = (do
      let ov ← eval o X.env
      standAt apos.atName
      let (f, first) ← holding [ov] (getMethod ov m pl)
      callWith pos f first (backTo pos (starEach (e :: es) X.env)) (backToKw pos (keywordEach [] X.env))) := by rfl) :
    PE X (.Call (.Attribute o m apos) (e :: es) [] pos) (tCmA C n sp gV to t) := by
  obtain ⟨f, p, mc, fd, ps, g, cr, cm, F, b⟩ := c.ex
  refine ⟨fun pins s σ H Q I h => ?_⟩
  refine PySem.W.methodCall_KW (pl := pl) (thn (he.run pins s σ H _ I h) fun u s1 ⟨x, H1, I1, rx, ex, q⟩ => ?_) ht
  subst ex
  obtain rfl : u = Value.ref C := rx
  refine ClX.getmethcm_ok I1 cr cm fun s2 I2 => ?_
  refine ClX.callwith_cm I2 (ClX.base_none I1 (Nat.le_refl _)) cm.fi (thn (ha.run pos _ s2 σ H1 _ I2 q) fun us s3 ⟨vs, H2, I3, rv, q2⟩ => ⟨⟨ClX.pin_at I3, I3.kIn⟩, ?_⟩) hst hpl
  exact run_cmk (ks := []) (ws := []) (zs := []) F (hr.mono hk) b I3 rv .nil q2.1 rfl q2.2
theorem pe_cmA0 (c : CmK X.prog X.w X.K X.mg X.base k C m sp n [] gV) (hr : Room j X.A) (hk : k ≤ j) (he : PE X o to)
    (ht : eval (.Call (.Attribute o m apos) [] [] pos) X.env = (do
      let ov ← eval o X.env
      standAt apos.atName
      let (f, first) ← holding [ov] (getMethod ov m pl)
      callWith pos f first (backTo pos (starEach [] X.env)) (backToKw pos (keywordEach [] X.env))) := by rfl) :
    PE X (.Call (.Attribute o m apos) [] [] pos) (tCmA C n sp gV to tNil) := by
  obtain ⟨f, p, mc, fd, ps, g, cr, cm, F, b⟩ := c.ex
  refine ⟨fun pins s σ H Q I h => ?_⟩
  refine PySem.W.methodCall_KW (pl := pl) (thn (he.run pins s σ H _ I h) fun u s1 ⟨x, H1, I1, rx, ex, q⟩ => ?_) ht
  subst ex
  obtain rfl : u = Value.ref C := rx
  refine ClX.getmethcm_ok I1 cr cm fun s2 I2 => ?_
  refine PySem.W.callWith_M0 ⟨ClX.pin_at I2, I2.kIn⟩ cm.fi ?_
  exact run_cmk (us := []) (vs := []) (ks := []) (ws := []) (zs := []) F (hr.mono hk) b I2 .nil .nil q.1 rfl q.2
theorem pe_cmKw (c : CmK X.prog X.w X.K X.mg X.base k C m sp 1 ks gV) (hr : Room j X.A) (hk : k ≤ j) (he : PE X o to) (hkw : PK X kws tk)
    (hall : (backToKw pos (keywordEach kws X.env)).all (·.1.isSome) = true := by rfl) (hks : (backToKw pos (keywordEach kws X.env)).filterMap (·.1) = ks := by rfl)
    (hpl : ((backTo pos (starEach [] X.env)).any (·.1) || (backToKw pos (keywordEach kws X.env)).any (·.1.isNone)) = false := by rfl)
    (ht : eval (.Call (.Attribute o m apos) [] kws pos) X.env = (do
      let ov ← eval o X.env
      standAt apos.atName
      let (f, first) ← holding [ov] (getMethod ov m pl)
      callWith pos f first (backTo pos (starEach [] X.env)) (backToKw pos (keywordEach kws X.env))) := by rfl) :
    PE X (.Call (.Attribute o m apos) [] kws pos) (tCmK C ks.length sp gV to tk) := by
  obtain ⟨f, p, mc, fd, ps, g, cr, cm, F, b⟩ := c.ex
  refine ⟨fun pins s σ H Q I h => ?_⟩
  refine PySem.W.methodCall_KW (pl := pl) (thn (he.run pins s σ H _ I h) fun u s1 ⟨x, H1, I1, rx, ex, q⟩ => ?_) ht
  subst ex
  obtain rfl : u = Value.ref C := rx
  refine ClX.getmethcm_ok I1 cr cm fun s2 I2 => ?_
  refine PySem.W.callWith_of (P := fun h => PySem.W.MethP X.K s1.heap.objs.size f (.ref C) h) hpl (PySem.W.keeps_M cm.fi) (PyProof.Rows.evalArgs_kw2_nil hall ?_)
  refine thn (hkw.run pos _ s2 σ H1 _ I2 q) fun ws s3 ⟨zs, H2, I3, rz, l2, q2⟩ => ⟨⟨ClX.pin_at I3, I3.kIn⟩, ?_⟩
  rw [hks]
  exact run_cmk (us := []) (vs := []) F (hr.mono hk) b I3 .nil rz rfl l2 q2
/-- cls(..), cls a local name -/
def tMakeL (i : Nat) (C : Addr) (sp : Sp) (E : XK) (t : TA) : TE := fun σ H Q => σ[i]? = some (some (.ref C)) ∧ StX.tMakeR C sp E t σ H Q
theorem pe_marL {i : Nat} {y : Str} (c : MaR X.prog X.w X.K X.mg X.base k y C sp) (hr : Room j X.A) (hk : k + 1 ≤ j) (ha : PA X (e :: es) t) (hN : X.N[i]? = some x := by rfl) (hv : Vis X.env.scope x := by first | exact Or.inl rfl | exact Or.inr (Or.inl rfl) | exact Or.inr (Or.inr rfl))
    (hdb : (x == ("__debug__" : Str)) = false := by decide) (hcd : (x == ("__classdict__" : Str)) = false := by decide)
    (he : starEach (e :: es) X.env = (false, eval e X.env) :: starEach es X.env := by rfl) (hpl : (backTo pos (starEach es X.env)).any (·.1) = false := by rfl) : PE X (.Call (.Name x p) (e :: es) [] pos) (tMakeL i C sp E0 t) := by
  obtain ⟨f, M, F, hm⟩ := c.ex
  refine ⟨fun pins s σ H Q I h => ?_⟩
  obtain ⟨hs, ht⟩ := h
  refine wpAny_Call_Name_kw (thn ((pe_var (pos := p) hN hv hdb hcd).run pins s σ H (fun v H1 => v = .ref C ∧ H1 = H) I ⟨.ref C, hs, rfl, rfl⟩) fun u s1 ⟨v, H1, I1, r1, q1⟩ => ?_)
  obtain ⟨rfl, rfl⟩ := q1
  cases r1
  refine PySem.W.callWith_K (h₀ := X.base) I.ok.mod.kin M.kp (thn (ha.run pos pins s1 σ _ _ I1 ht) fun us s2 ⟨vs, H2, I2, r, q⟩ => ⟨I2.kIn, ?_⟩) he hpl
  exact StX.run_makeR M F (hr.mono hk) pass0 I2 r q
/-- cls.f, a constant of the class -/
def tCv (C : Addr) (v : V) (ta : TE) : TE := fun σ H Q => ta σ H fun x H1 => x = .ref C ∧ Q v H1
theorem pe_cvl {y : Str} {v : V} (c : CCon X.K C y v) (he : PE X e ta) (hb : attributeBase e y X.env (eval e X.env) = eval e X.env := by rfl) : PE X (.Attribute e y pos) (tCv C v ta) := by
  obtain ⟨mc, u, r, k⟩ := c.ex
  refine ⟨fun pins s σ H Q I h => ?_⟩
  refine attr_of hb (thn (he.run pins s σ H _ I h) fun u s1 ⟨x, H1, I1, rx, ex, q⟩ => ?_)
  subst ex
  obtain rfl : u = Value.ref C := rx
  exact ClX.getcval_ok I1 r k fun s2 I2 => ⟨v, H1, I2, k.rel, q⟩
end
section
variable {σ : L2.St} {H : Hp} {Q : VK} {C : Addr} {sp : Sp} {E : XK} {v : V} {n m : Nat} {gV : List V → List V → List V} {to ta : TE} {t tk : TA} {vs zs us : List V}
def CvR (C : Addr) (v : V) (Q : VK) : VK := fun x H1 => x = .ref C ∧ Q v H1
theorem go_cv (q : ta σ H (CvR C v Q)) : tCv C v ta σ H Q := q
theorem go_cvr (q : Q v H) : CvR C v Q (.ref C) H := ⟨rfl, q⟩
def MkR1 (C : Addr) (sp : Sp) (E : XK) (Q : VK) : List V → Hp → Prop := fun vs H1 => ∀ x dx, H1 x = none → H1 dx = none → dx ≠ x → sp (.ref x :: vs) (upd (upd H1 dx (.own x)) x (.ins C dx [])) (fun v H2 => v = .non ∧ Q (.ref x) H2) E
theorem go_mkr1 (q : t σ H (MkR1 C sp E Q)) : StX.tMakeR C sp E t σ H Q := q
theorem go_mkL {i : Nat} (h : σ[i]? = some (some (.ref C))) (q : t σ H (MkR1 C sp E Q)) : tMakeL i C sp E t σ H Q := ⟨h, q⟩
def CmR (C : Addr) (n : Nat) (sp : Sp) (gV : List V → List V → List V) (t : TA) (σ : L2.St) (Q : VK) : VK := fun x H1 => x = .ref C ∧ t σ H1 fun vs H2 => vs.length + 1 = n ∧ sp (gV (.ref C :: vs) []) H2 Q E0
def CkR (C : Addr) (m : Nat) (sp : Sp) (gV : List V → List V → List V) (tk : TA) (σ : L2.St) (Q : VK) : VK := fun x H1 => x = .ref C ∧ tk σ H1 fun zs H2 => zs.length = m ∧ sp (gV [.ref C] zs) H2 Q E0
def CmV (C : Addr) (n : Nat) (sp : Sp) (gV : List V → List V → List V) (Q : VK) : List V → Hp → Prop := fun vs H2 => vs.length + 1 = n ∧ sp (gV (.ref C :: vs) []) H2 Q E0
def CkV (C : Addr) (m : Nat) (sp : Sp) (gV : List V → List V → List V) (Q : VK) : List V → Hp → Prop := fun zs H2 => zs.length = m ∧ sp (gV [.ref C] zs) H2 Q E0
theorem go_cma (q : to σ H (CmR C n sp gV t σ Q)) : tCmA C n sp gV to t σ H Q := q
theorem go_cmk (q : to σ H (CkR C m sp gV tk σ Q)) : tCmK C m sp gV to tk σ H Q := q
theorem go_cmr (q : t σ H (CmV C n sp gV Q)) : CmR C n sp gV t σ Q (.ref C) H := ⟨rfl, q⟩
theorem go_ckr (q : tk σ H (CkV C m sp gV Q)) : CkR C m sp gV tk σ Q (.ref C) H := ⟨rfl, q⟩
theorem go_cmv (hl : vs.length + 1 = n) (e : gV (.ref C :: vs) [] = us) (q : sp us H Q E0) : CmV C n sp gV Q vs H := ⟨hl, by rw [e]; exact q⟩
theorem go_ckv (hl : zs.length = m) (e : gV [.ref C] zs = us) (q : sp us H Q E0) : CkV C m sp gV Q zs H := ⟨hl, by rw [e]; exact q⟩
end
end Mv
set_option Elab.async false
set_option maxRecDepth 100000
set_option maxHeartbeats 4000000
/-! mvxc: class methods, and calls by keywords, that may raise. -/
namespace Mv
open PySem PySem.Spec PyProof.Rows L2
structure CmKX (P : Program) (w : World) (K : PySem.W.Frag) (mg : Str → Option Value) (base : Heap) (k : Nat) (C : Addr) (m : Str) (sp : Sp) (n : Nat) (ks : List Str) (gV : List V → List V → List V) : Prop where
  ex : ∃ (f p : Addr) (mc : Value) (fd : FuncData) (ps : List Str) (g : List Value → List Value → List Value), ClX.CRead K C mc ∧ ClX.CMet K C mc m p f ∧ FnOk P w K mg base (L2.CX P w) k f fd ps sp ∧ KBn K fd ps n ks g gV
structure CaKX (P : Program) (w : World) (K : PySem.W.Frag) (mg : Str → Option Value) (base : Heap) (k : Nat) (x : Str) (sp : Sp) (ks : List Str) (gV : List V → List V → List V) : Prop where
  ex : ∃ (f : Addr) (fd : FuncData) (ps : List Str) (g : List Value → List Value → List Value), FnOk P w K mg base (L2.CX P w) k f fd ps sp ∧ mg x = some (.ref f) ∧ PySem.W.keepIn K (.ref f) = true ∧ KBn K fd ps 0 ks g gV
structure MeKX (P : Program) (w : World) (K : PySem.W.Frag) (mg : Str → Option Value) (base : Heap) (k : Nat) (C : Addr) (m : Str) (sp : Sp) (ks : List Str) (gV : List V → List V → List V) : Prop where
  ex : ∃ (f : Addr) (fd : FuncData) (ps : List Str) (g : List Value → List Value → List Value), Cls K C ∧ Meth K C m f ∧ FnOk P w K mg base (L2.CX P w) k f fd ps sp ∧ KBn K fd ps 1 ks g gV
def tCmAX (C : Addr) (n : Nat) (sp : Sp) (gV : List V → List V → List V) (W : WX) (to : TE) (t : TA) : TE := fun σ H Q => to σ H fun x H1 => x = .ref C ∧ t σ H1 fun vs H2 => vs.length + 1 = n ∧ sp (gV (.ref C :: vs) []) H2 Q (WE W σ)
def tCmKX (C : Addr) (m : Nat) (sp : Sp) (gV : List V → List V → List V) (W : WX) (to : TE) (tk : TA) : TE := fun σ H Q => to σ H fun x H1 => x = .ref C ∧ tk σ H1 fun zs H2 => zs.length = m ∧ sp (gV [.ref C] zs) H2 Q (WE W σ)
def tCaKX (m : Nat) (sp : Sp) (gV : List V → List V → List V) (W : WX) (tk : TA) : TE := fun σ H Q => tk σ H fun zs H2 => zs.length = m ∧ sp (gV [] zs) H2 Q (WE W σ)
def tMeKX (C : Addr) (m : Str) (n : Nat) (sp : Sp) (gV : List V → List V → List V) (W : WX) (ta : TE) (tk : TA) : TE := fun σ H Q => ta σ H fun x H1 => ∃ a dx fs, x = .ref a ∧ H1 a = some (.ins C dx fs) ∧ fs.lookup m = Option.none ∧ tk σ H1 fun zs H2 => zs.length = n ∧ sp (gV [x] zs) H2 Q (WE W σ)
section
variable {X : Cx} {k j n : Nat} {C f : Addr} {sp : Sp} {fd : FuncData} {ps ks : List Str} {g : List Value → List Value → List Value} {gV : List V → List V → List V} {o e : Expr} {es : List Expr} {kws : List Keyword} {m x : Str} {p pos apos : Pos} {ta to : TE} {t tkw : TA} {pl : Sem Bool} {W : WX}
theorem run_knX {pins : List (Addr × Obj)} {σ : L2.St} {H : Hp} {s : Shared} {Q : VK} {us ws : List Value} {vs zs : List V} (F : FnOk X.prog X.w X.K X.mg X.base (L2.CX X.prog X.w) k f fd ps sp) (hr : Room k X.A) (hb : KBn X.K fd ps n ks g gV) (tk : Takes X W)
    (I : Inv X pins σ H s) (r : Vals vs us) (rz : Vals zs ws) (l1 : vs.length = n) (l2 : zs.length = ks.length) (h : sp (gV vs zs) H Q (WE W σ)) : wpAny (model X.prog X.w) X.A (call (.ref f) us (ks.zip ws)) (EP X pins σ Q) X.xe s := by
  refine wpAny_call (codeAny_mono (F.run X.A X.stack s H ⟨us, ks.zip ws⟩ (g us ws) (gV vs zs) Q (WE W σ) hr I.env0 (hb.to s us ws I.kIn (r.length.symm.trans l1) (rz.length.symm.trans l2)) (hb.rel r rz) h) fun r s' hq => ?_)
  cases r with
  | error e => exact passAt tk σ pins H s e s' I hq
  | ok fl =>
    cases fl with
    | ret u => exact I.after hq
    | next => exact False.elim hq
    | brk => exact False.elim hq
    | cont => exact False.elim hq
theorem run_cmkX {pins : List (Addr × Obj)} {σ : L2.St} {H : Hp} {s : Shared} {Q : VK} {us ws : List Value} {vs zs : List V} {q : Addr} (F : FnOk X.prog X.w X.K X.mg X.base (L2.CX X.prog X.w) k f fd ps sp) (hr : Room k X.A) (hb : KBn X.K fd ps n ks g gV) (tk : Takes X W)
    (I : Inv X ((q, PySem.W.methodObj (.ref f) (.ref C)) :: pins) σ H s) (r : Vals vs us) (rz : Vals zs ws) (l1 : vs.length + 1 = n) (l2 : zs.length = ks.length) (h : sp (gV (.ref C :: vs) zs) H Q (WE W σ)) : wpAny (model X.prog X.w) X.A (call (.ref q) us (ks.zip ws)) (EP X pins σ Q) X.xe s := by
  have z : wpAny (model X.prog X.w) X.A (call (.ref q) us (ks.zip ws)) (EP X ((q, PySem.W.methodObj (.ref f) (.ref C)) :: pins) σ Q) X.xe s := by
    refine wpAny_call (PySem.W.method_call (ClX.pin_at I) (codeAny_mono (F.run X.A X.stack s H ⟨.ref C :: us, ks.zip ws⟩ (g (.ref C :: us) ws) (gV (.ref C :: vs) zs) Q (WE W σ) hr I.env0 (hb.to s (.ref C :: us) ws I.kIn (by rw [List.length_cons, ← r.length]; exact l1) (rz.length.symm.trans l2)) (hb.rel (.cons rfl r) rz) h) fun r s' hq => ?_))
    cases r with
    | error e => exact passAt tk σ _ H s e s' I hq
    | ok fl =>
      cases fl with
      | ret u => exact I.after hq
      | next => exact False.elim hq
      | brk => exact False.elim hq
      | cont => exact False.elim hq
  exact thn z fun _ _ y => ClX.unpinE y
theorem pe_cmAX (c : CmKX X.prog X.w X.K X.mg X.base k C m sp n [] gV) (hr : Room j X.A) (hk : k ≤ j) (tk : Takes X W) (he : PE X o to) (ha : PA X (e :: es) t)
    (hst : starEach (e :: es) X.env = (false, eval e X.env) :: starEach es X.env := by rfl) (hpl : (backTo pos (starEach es X.env)).any (·.1) = false := by rfl)
    (ht : eval (.Call (.Attribute o m apos) (e :: es) [] pos) X.env = (do
      let ov ← eval o X.env
      standAt apos.atName
      let (f, first) ← holding [ov] (getMethod ov m pl)
      callWith pos f first (backTo pos (starEach (e :: es) X.env)) (backToKw pos (keywordEach [] X.env))) := by rfl) :
    PE X (.Call (.Attribute o m apos) (e :: es) [] pos) (tCmAX C n sp gV W to t) := by
  obtain ⟨f, p, mc, fd, ps, g, cr, cm, F, b⟩ := c.ex
  refine ⟨fun pins s σ H Q I h => ?_⟩
  refine PySem.W.methodCall_KW (pl := pl) (thn (he.run pins s σ H _ I h) fun u s1 ⟨x, H1, I1, rx, ex, q⟩ => ?_) ht
  subst ex
  obtain rfl : u = Value.ref C := rx
  refine ClX.getmethcm_ok I1 cr cm fun s2 I2 => ?_
  refine ClX.callwith_cm I2 (ClX.base_none I1 (Nat.le_refl _)) cm.fi (thn (ha.run pos _ s2 σ H1 _ I2 q) fun us s3 ⟨vs, H2, I3, rv, q2⟩ => ⟨⟨ClX.pin_at I3, I3.kIn⟩, ?_⟩) hst hpl
  exact run_cmkX (ks := []) (ws := []) (zs := []) F (hr.mono hk) b tk I3 rv .nil q2.1 rfl q2.2
theorem pe_cmKwX (c : CmKX X.prog X.w X.K X.mg X.base k C m sp 1 ks gV) (hr : Room j X.A) (hk : k ≤ j) (tk : Takes X W) (he : PE X o to) (hkw : PK X kws tkw)
    (hall : (backToKw pos (keywordEach kws X.env)).all (·.1.isSome) = true := by rfl) (hks : (backToKw pos (keywordEach kws X.env)).filterMap (·.1) = ks := by rfl)
    (hpl : ((backTo pos (starEach [] X.env)).any (·.1) || (backToKw pos (keywordEach kws X.env)).any (·.1.isNone)) = false := by rfl)
    (ht : eval (.Call (.Attribute o m apos) [] kws pos) X.env = (do
      let ov ← eval o X.env
      standAt apos.atName
      let (f, first) ← holding [ov] (getMethod ov m pl)
      callWith pos f first (backTo pos (starEach [] X.env)) (backToKw pos (keywordEach kws X.env))) := by rfl) :
    PE X (.Call (.Attribute o m apos) [] kws pos) (tCmKX C ks.length sp gV W to tkw) := by
  obtain ⟨f, p, mc, fd, ps, g, cr, cm, F, b⟩ := c.ex
  refine ⟨fun pins s σ H Q I h => ?_⟩
  refine PySem.W.methodCall_KW (pl := pl) (thn (he.run pins s σ H _ I h) fun u s1 ⟨x, H1, I1, rx, ex, q⟩ => ?_) ht
  subst ex
  obtain rfl : u = Value.ref C := rx
  refine ClX.getmethcm_ok I1 cr cm fun s2 I2 => ?_
  refine PySem.W.callWith_of (P := fun h => PySem.W.MethP X.K s1.heap.objs.size f (.ref C) h) hpl (PySem.W.keeps_M cm.fi) (PyProof.Rows.evalArgs_kw2_nil hall ?_)
  refine thn (hkw.run pos _ s2 σ H1 _ I2 q) fun ws s3 ⟨zs, H2, I3, rz, l2, q2⟩ => ⟨⟨ClX.pin_at I3, I3.kIn⟩, ?_⟩
  rw [hks]
  exact run_cmkX (us := []) (vs := []) F (hr.mono hk) b tk I3 .nil rz rfl l2 q2
theorem pe_cakX (c : CaKX X.prog X.w X.K X.mg X.base k x sp ks gV) (hr : Room j X.A) (hk : k ≤ j) (hg : Gl X x) (tk : Takes X W) (hkw : PK X kws tkw)
    (hall : (backToKw pos (keywordEach kws X.env)).all (·.1.isSome) = true := by rfl) (hks : (backToKw pos (keywordEach kws X.env)).filterMap (·.1) = ks := by rfl)
    (hdb : (x == ("__debug__" : Str)) = false := by decide) (hpl : ((backTo pos (starEach [] X.env)).any (·.1) || (backToKw pos (keywordEach kws X.env)).any (·.1.isNone)) = false := by rfl) :
    PE X (.Call (.Name x p) [] kws pos) (tCaKX ks.length sp gV W tkw) := by
  obtain ⟨f, fd, ps, g, F, hm, kp, b⟩ := c.ex
  refine ⟨fun pins s σ H Q I h => ?_⟩
  refine wpAny_Call_Name_kw (ld_glob I hg hm ?_ hdb)
  refine PySem.W.callWith_KW0 (h₀ := X.base) I.ok.mod.kin kp hall ?_ hpl
  refine thn (hkw.run pos pins s σ H _ I h) fun ws s2 ⟨zs, H2, I2, rz, l2, q2⟩ => ⟨I2.kIn, ?_⟩
  rw [hks]
  exact run_knX (us := []) (vs := []) F (hr.mono hk) b tk I2 .nil rz rfl l2 q2
theorem pe_mekX (c : MeKX X.prog X.w X.K X.mg X.base k C m sp ks gV) (hr : Room j X.A) (hk : k ≤ j) (tk : Takes X W) (he : PE X o ta) (hkw : PK X kws tkw)
    (hall : (backToKw pos (keywordEach kws X.env)).all (·.1.isSome) = true := by rfl) (hks : (backToKw pos (keywordEach kws X.env)).filterMap (·.1) = ks := by rfl)
    (hpl : ((backTo pos (starEach [] X.env)).any (·.1) || (backToKw pos (keywordEach kws X.env)).any (·.1.isNone)) = false := by rfl)
    (ht : eval (.Call (.Attribute o m apos) [] kws pos) X.env = (do
      let ov ← eval o X.env
      standAt apos.atName
      let (f, first) ← holding [ov] (getMethod ov m pl)
      callWith pos f first (backTo pos (starEach [] X.env)) (backToKw pos (keywordEach kws X.env))) := by rfl) :
    PE X (.Call (.Attribute o m apos) [] kws pos) (tMeKX C m ks.length sp gV W ta tkw) := by
  obtain ⟨f, fd, ps, g, hc, hm, F, b⟩ := c.ex
  refine ⟨fun pins s σ H Q I h => ?_⟩
  refine PySem.W.methodCall_KW (pl := pl) (thn (he.run pins s σ H _ I h) fun u s1 ⟨x, H1, I1, rx, a, dx, fs, ex, ea, l, q⟩ => ?_) ht
  subst ex
  obtain rfl : u = Value.ref a := rx
  refine getmeth_ok I1 ea hc hm l ?_
  refine PySem.W.callWith_KW0 (first := [.ref a]) (h₀ := X.base) I.ok.mod.kin hm.kp hall ?_ hpl
  refine thn (hkw.run pos pins s1 σ H1 _ I1 q) fun ws s2 ⟨zs, H2, I2, rz, l2, q2⟩ => ⟨I2.kIn, ?_⟩
  rw [hks]
  exact run_knX (us := [.ref a]) (vs := [.ref a]) F (hr.mono hk) b tk I2 (.cons rfl .nil) rz rfl l2 q2
/-! steps -/
variable {H H1 : Hp} {Q : VK} {σ : L2.St} {us vs zs : List V} {a dx : Addr} {fs : List (Str × V)} {E : XK} {mm : Nat}
def CmRX (C : Addr) (n : Nat) (sp : Sp) (gV : List V → List V → List V) (W : WX) (t : TA) (σ : L2.St) (Q : VK) : VK := fun x H1 => x = .ref C ∧ t σ H1 fun vs H2 => vs.length + 1 = n ∧ sp (gV (.ref C :: vs) []) H2 Q (WE W σ)
def CkRX (C : Addr) (m : Nat) (sp : Sp) (gV : List V → List V → List V) (W : WX) (tk : TA) (σ : L2.St) (Q : VK) : VK := fun x H1 => x = .ref C ∧ tk σ H1 fun zs H2 => zs.length = m ∧ sp (gV [.ref C] zs) H2 Q (WE W σ)
def CmVX (C : Addr) (n : Nat) (sp : Sp) (gV : List V → List V → List V) (E : XK) (Q : VK) : List V → Hp → Prop := fun vs H2 => vs.length + 1 = n ∧ sp (gV (.ref C :: vs) []) H2 Q E
def CkVX (pre : List V) (m : Nat) (sp : Sp) (gV : List V → List V → List V) (E : XK) (Q : VK) : List V → Hp → Prop := fun zs H2 => zs.length = m ∧ sp (gV pre zs) H2 Q E
def MkRX (C : Addr) (m : Str) (n : Nat) (sp : Sp) (gV : List V → List V → List V) (W : WX) (tk : TA) (σ : L2.St) (Q : VK) : VK := fun x H1 => ∃ a dx fs, x = .ref a ∧ H1 a = some (.ins C dx fs) ∧ fs.lookup m = Option.none ∧ tk σ H1 fun zs H2 => zs.length = n ∧ sp (gV [x] zs) H2 Q (WE W σ)
theorem go_cmAX (q : to σ H (CmRX C n sp gV W t σ Q)) : tCmAX C n sp gV W to t σ H Q := q
theorem go_cmKX (q : to σ H (CkRX C mm sp gV W tkw σ Q)) : tCmKX C mm sp gV W to tkw σ H Q := q
theorem go_cmRX (q : t σ H (CmVX C n sp gV (WE W σ) Q)) : CmRX C n sp gV W t σ Q (.ref C) H := ⟨rfl, q⟩
theorem go_ckRX (q : tkw σ H (CkVX [.ref C] mm sp gV (WE W σ) Q)) : CkRX C mm sp gV W tkw σ Q (.ref C) H := ⟨rfl, q⟩
theorem go_caKX (q : tkw σ H (CkVX [] mm sp gV (WE W σ) Q)) : tCaKX mm sp gV W tkw σ H Q := q
theorem go_meKX {ta : TE} (q : ta σ H (MkRX C m n sp gV W tkw σ Q)) : tMeKX C m n sp gV W ta tkw σ H Q := q
theorem go_mkRX (h : H a = some (.ins C dx fs)) (hm : fs.lookup m = Option.none) (q : tkw σ H (CkVX [.ref a] n sp gV (WE W σ) Q)) : MkRX C m n sp gV W tkw σ Q (.ref a) H := ⟨a, dx, fs, rfl, h, hm, q⟩
theorem go_cmVX (hl : vs.length + 1 = n) (e : gV (.ref C :: vs) [] = us) (q : sp us H Q E) : CmVX C n sp gV E Q vs H := ⟨hl, by rw [e]; exact q⟩
theorem go_ckVX {pre : List V} (hl : zs.length = mm) (e : gV pre zs = us) (q : sp us H Q E) : CkVX pre mm sp gV E Q zs H := ⟨hl, by rw [e]; exact q⟩
end
end Mv
set_option Elab.async false
set_option maxRecDepth 100000
set_option maxHeartbeats 4000000
/-! mvtx: t.index(x) of a tuple of flat items; x.F of an instance, F a constant of its class. -/
namespace Mv
open PySem PySem.Spec PyProof.Rows L2
def rIdxT (K : PySem.W.Frag) : V → List V → Hp → VK → Prop := fun x xs H Q => ∃ (a : Addr) (ys : List V) (y : V) (j : Nat) (z : V), x = V.ref a ∧ xs = [y] ∧ SqT K H a ys ∧ flatV y = true ∧ ys.all flatV = true ∧ ys[j]? = some z ∧ eqV z y = true ∧
  (∀ (m : Nat) (z' : V), m < j → ys[m]? = some z' → eqV z' y = false) ∧ Q (.int (j : Nat)) H
theorem mt_idxT {X : Cx} : MtR X "tuple.index" (rIdxT X.K) := by
  intro pins s σ H x xs v us Q I rx rxs h
  obtain ⟨a, ys, y, j, z, rfl, rfl, hs, fy, fys, hz, hzj, hno, q⟩ := h
  cases rx
  cases rxs with
  | cons ry rt =>
    rename_i uy ut
    cases rt
    obtain ⟨its, rv, ⟨⟨cls, dd, data, sl⟩, ho, hc, n, hd⟩, hlen⟩ := I.tuple hs
    simp only at hc hd
    subst hc hd
    obtain ⟨u, hu, ru⟩ := rv.get hz
    obtain ⟨hjl, hje⟩ := List.getElem?_eq_some_iff.mp hu
    have hvl := rv.length
    have hj : j < its.toArray.size := by simpa using hjl
    refine call_meets PySem.F.slot_tuple_index ⟨_, ho, rfl⟩ PySem.F.entry_tuple_index (PySem.F.args_tuple_index_2 _ _)
      (SeqAt.tuple_index2_found a its.toArray n dd sl uy (fun m => if h : m < its.toArray.size then eqU y its.toArray[m] else false) j hj (Nat.zero_le _) hj ?_ ?_) ⟨ho, fun m hm => ?_, ?_⟩
    · have e1 : its.toArray[j] = u := by simpa using hje
      rw [dif_pos hj, e1, eqU_of ru (flat_at fys hz)]
      exact hzj
    · intro m hm _ hmj
      have hml : m < its.length := by simpa using hm
      have hmy : m < ys.length := by omega
      have hy' : ys[m]? = some ys[m] := List.getElem?_eq_getElem hmy
      obtain ⟨u2, hu2, ru2⟩ := rv.get hy'
      obtain ⟨_, hme⟩ := List.getElem?_eq_some_iff.mp hu2
      have e1 : its.toArray[m] = u2 := by simpa using hme
      rw [dif_pos hm, e1, eqU_of ru2 (flat_at fys hy')]
      exact hno m _ hmj hy'
    · rw [dif_pos hm]
      exact mem_eqAt ry fy rv fys _ (by simp)
    · exact ⟨.int (j : Nat), H, I.tok _, ⟨_, rfl⟩, q⟩
theorem mt_idxT' {X : Cx} {K : PySem.W.Frag} (e : X.K = K := by (conv => lhs; whnf)) : MtR X "tuple.index" (rIdxT K) := by
  subst e
  exact mt_idxT
/-- a constant of the class at C -/
structure ICon (K : PySem.W.Frag) (C : Addr) (f : Str) (v : V) : Prop where
  cl : Cls K C
  ex : ∃ u, Con K C f v u
/-- x.f, x an instance of the class at C without an attribute f of its own -/
def tIc (C : Addr) (f : Str) (v : V) (ta : TE) : TE := fun σ H Q => ta σ H fun x H1 => ∃ a dx fs, x = .ref a ∧ H1 a = some (.ins C dx fs) ∧ fs.lookup f = none ∧ Q v H1
theorem pe_icon {X : Cx} {C : Addr} {f : Str} {v : V} {e : Expr} {pos : Pos} {ta : TE} (c : ICon X.K C f v) (he : PE X e ta) (hb : attributeBase e f X.env (eval e X.env) = eval e X.env := by rfl) : PE X (.Attribute e f pos) (tIc C f v ta) := by
  obtain ⟨u, k⟩ := c.ex
  refine ⟨fun pins s σ H Q I h => ?_⟩
  refine attr_of hb (thn (he.run pins s σ H _ I h) fun u1 s1 ⟨x, H1, I1, rx, a, dx, fs, ex, ea, l, q⟩ => ?_)
  subst ex
  obtain rfl : u1 = Value.ref a := rx
  exact getcon_ok I1 ea c.cl k l fun s2 I2 => ⟨v, H1, I2, k.rel, q⟩
section
variable {K : PySem.W.Frag} {σ : L2.St} {H : Hp} {Q : VK} {ta to : TE} {t : TA} {C a dx : Addr} {f : Str} {v : V} {fs : List (Str × V)} {xs : List V}
def IcR (C : Addr) (f : Str) (v : V) (Q : VK) : VK := fun x H1 => ∃ a dx fs, x = .ref a ∧ H1 a = some (.ins C dx fs) ∧ fs.lookup f = none ∧ Q v H1
theorem go_ic (q : ta σ H (IcR C f v Q)) : tIc C f v ta σ H Q := q
theorem go_icr (h : H a = some (.ins C dx fs)) (hl : fs.lookup f = none) (q : Q v H) : IcR C f v Q (.ref a) H := ⟨a, dx, fs, rfl, h, hl, q⟩
theorem go_bmt (q : to σ H (BmR K "tuple" (rIdxT K) t σ Q)) : tBM K "tuple" (rIdxT K) to t σ H Q := q
theorem go_bmT (h : ∃ o, List.lookup a K = some o ∧ o.cls = Value.type "tuple" ∧ o.dict = none) (q : t σ H fun vs H2 => rIdxT K (.ref a) vs H2 Q) : BmR K "tuple" (rIdxT K) t σ Q (.ref a) H := ⟨.inr (.inl ⟨rfl, h⟩), q⟩
/-- DIRECTIONS.index(x) and the like: texts, each once -/
theorem go_idxS {ws : List Str} {j : Nat} {z : Str} (h : SqT K H a (ws.map V.str)) (nd : ws.Nodup) (hj : ws[j]? = some z) (q : Q (.int (j : Nat)) H) : rIdxT K (.ref a) [.str z] H Q := by
  refine ⟨a, _, _, j, .str z, rfl, rfl, h, rfl, ?_, by rw [List.getElem?_map, hj]; rfl, ?_, fun m z' hm hz => ?_, q⟩
  · rw [List.all_map]
    exact List.all_eq_true.mpr fun x _ => rfl
  · show (z == z) = true
    exact beq_self_eq_true z
  · rw [List.getElem?_map] at hz
    obtain ⟨y, hy, rfl⟩ := Option.map_eq_some_iff.mp hz
    show (y == z) = false
    refine beq_eq_false_iff_ne.mpr fun e => ?_
    subst e
    obtain ⟨l1, e1⟩ := List.getElem?_eq_some_iff.mp hy
    obtain ⟨l2, e2⟩ := List.getElem?_eq_some_iff.mp hj
    have h3 := (List.pairwise_iff_getElem.mp nd) m j l1 l2 hm
    exact h3 (e1.trans e2.symm)
end
end Mv
namespace Mv
open PySem PySem.Spec PyProof.Rows L2
def kRev4 {α : Type} (vs zs : List α) : List α := match vs, zs with
  | [], [a, b, c, d] => [d, c, b, a]
  | vs, zs => vs ++ zs
theorem kRev4_rel {vs zs : List V} {us ws : List Value} (h1 : Vals vs us) (h2 : Vals zs ws) : Vals (kRev4 vs zs) (kRev4 us ws) := by
  cases h1 with
  | cons a b => exact Vals.append (Paired.cons a b) h2
  | nil =>
    cases h2 with
    | nil => exact .nil
    | cons a h =>
      cases h with
      | nil => exact .cons a .nil
      | cons b h =>
        cases h with
        | nil => exact .cons a (.cons b .nil)
        | cons c h =>
          cases h with
          | nil => exact .cons a (.cons b (.cons c .nil))
          | cons d h =>
            cases h with
            | nil => exact .cons d (.cons c (.cons b (.cons a .nil)))
            | cons e h => exact .cons a (.cons b (.cons c (.cons d (.cons e h))))
theorem cut_ij (xs : List V) (i j : Nat) (hi : i ≤ xs.length) (hj : j ≤ xs.length) : cutV xs (some (i : Int)) (some (j : Int)) = (xs.drop i).take (j - i) := by
  unfold cutV
  rw [HT.sIx_nat, HT.sIx_nat, Nat.min_eq_left hi, Nat.min_eq_left hj]
theorem go_sllB {K : PySem.W.Frag} {H : Hp} {Q : VK} {a : Addr} {xs : List V} {i j : Nat} (h : SqL K H a xs) (hi : i ≤ xs.length) (hj : j ≤ xs.length) (q : ∀ p H', H p = none → Same H H' → H' p = some (.lst ((xs.drop i).take (j - i))) → Q (.ref p) H') : rSlL K (.ref a) (some (i : Int)) (some (j : Int)) H Q := ⟨a, xs, rfl, h, fun p hp => q p _ hp (same_new hp) (by rw [upd_same, cut_ij _ _ _ hi hj])⟩
def kSf3 {α : Type} (vs zs : List α) : List α := match vs, zs with
  | [s], [a, b, c] => [s, c, b, a]
  | vs, zs => vs ++ zs
theorem kSf3_rel {vs zs : List V} {us ws : List Value} (h1 : Vals vs us) (h2 : Vals zs ws) : Vals (kSf3 vs zs) (kSf3 us ws) := by
  cases h1 with
  | nil => exact h2
  | cons s h1 =>
    cases h1 with
    | cons a h1 => exact Vals.append (.cons s (.cons a h1)) h2
    | nil =>
      cases h2 with
      | nil => exact .cons s .nil
      | cons a h =>
        cases h with
        | nil => exact .cons s (.cons a .nil)
        | cons b h =>
          cases h with
          | nil => exact .cons s (.cons a (.cons b .nil))
          | cons c h =>
            cases h with
            | nil => exact .cons s (.cons c (.cons b (.cons a .nil)))
            | cons d h => exact .cons s (.cons a (.cons b (.cons c (.cons d h))))
end Mv
set_option Elab.async false
set_option maxRecDepth 100000
set_option maxHeartbeats 4000000
/-! mvkx: classes made by keywords that may raise. -/
namespace Mv
open PySem PySem.Spec PyProof.Rows L2
/-- self, and four keywords in turned sequence -/
def kSf4 {α : Type} (vs zs : List α) : List α := match vs, zs with
  | [s], [a, b, c, d] => [s, d, c, b, a]
  | vs, zs => vs ++ zs
theorem kSf4_rel {vs zs : List V} {us ws : List Value} (h1 : Vals vs us) (h2 : Vals zs ws) : Vals (kSf4 vs zs) (kSf4 us ws) := by
  cases h1 with
  | nil => exact h2
  | cons s h1 =>
    cases h1 with
    | cons a h1 => exact Vals.append (.cons s (.cons a h1)) h2
    | nil =>
      cases h2 with
      | nil => exact .cons s .nil
      | cons a h =>
        cases h with
        | nil => exact .cons s (.cons a .nil)
        | cons b h =>
          cases h with
          | nil => exact .cons s (.cons a (.cons b .nil))
          | cons c h =>
            cases h with
            | nil => exact .cons s (.cons a (.cons b (.cons c .nil)))
            | cons d h =>
              cases h with
              | nil => exact .cons s (.cons d (.cons c (.cons b (.cons a .nil))))
              | cons e h => exact .cons s (.cons a (.cons b (.cons c (.cons d (.cons e h)))))
/-- a class made by keywords; it may raise -/
structure MaKX (P : Program) (w : World) (K : PySem.W.Frag) (mg : Str → Option Value) (base : Heap) (k : Nat) (x : Str) (C : Addr) (sp : Sp) (ks : List Str) (gV : List V → List V → List V) : Prop where
  ex : ∃ (f : Addr) (fd : FuncData) (ps : List Str) (g : List Value → List Value → List Value), Mk K C f ∧ FnOk P w K mg base (L2.CX P w) k f fd ps sp ∧ mg x = some (.ref C) ∧ KBn K fd ps 1 ks g gV
theorem pe_makX {X : Cx} {k j : Nat} {C : Addr} {x : Str} {sp : Sp} {p pos : Pos} {kws : List Keyword} {tkw : TA} {ks : List Str} {gV : List V → List V → List V} {E : XK} (c : MaKX X.prog X.w X.K X.mg X.base k x C sp ks gV) (hr : Room j X.A) (hk : k + 1 ≤ j) (hg : Gl X x) (tk : Takes X (WQ E)) (hkw : PK X kws tkw)
    (hall : (backToKw pos (keywordEach kws X.env)).all (·.1.isSome) = true := by rfl) (hks : (backToKw pos (keywordEach kws X.env)).filterMap (·.1) = ks := by rfl)
    (hdb : (x == ("__debug__" : Str)) = false := by decide) (hpl : ((backTo pos (starEach [] X.env)).any (·.1) || (backToKw pos (keywordEach kws X.env)).any (·.1.isNone)) = false := by rfl) :
    PE X (.Call (.Name x p) [] kws pos) (tMakeK C 0 ks.length sp gV E tNil tkw) := by
  obtain ⟨f, fd, ps, g, M, F, hm, b⟩ := c.ex
  exact pe_makeK0 M F (hr.mono hk) hg hm b (passE tk) hkw hall hks hdb hpl
section
variable {σ : L2.St} {H : Hp} {Q : VK} {C : Addr} {sp : Sp} {E : XK} {n m : Nat} {gV : List V → List V → List V} {vs zs us : List V}
/-- made by keywords -/
theorem go_makKX (l1 : vs.length = n) (l2 : zs.length = m) (e : ∀ x, gV (.ref x :: vs) zs = .ref x :: us) (q : ∀ x dx H', Same H H' → H' x = some (.ins C dx []) → H x = none → sp (.ref x :: us) H' (fun v H2 => v = .non ∧ Q (.ref x) H2) E) : MakK C n m sp gV E Q vs zs H := by
  refine ⟨l1, l2, fun x dx nx nd ne => ?_⟩
  rw [e]
  refine q x dx _ (fun b o h => ?_) upd_same nx
  rw [upd_ne (ne_of_none h nx), upd_ne (ne_of_none h nd)]
  exact h
end
end Mv
set_option Elab.async false
set_option maxRecDepth 100000
set_option maxHeartbeats 4000000
/-! mvev: own errors as values: made (by position, by keywords, without any), their fields, isinstance. -/
namespace PySem
namespace HandSPX
section
variable {M : Model} {A : Around} {E : Value → Shared → Prop} {h : Heap} {g : Array GenState} {d : Drawn} {t : Nat} {os : OsState}
variable {nm q : Str} {C N : Addr} {bs bm bmB : List Value} {hdct : Bool} {sn : List Str} {sub : List Value} {ab : Bool} {col : Option Bool} {dd : Option Addr} {k0 k1 k2 k3 k5 : Option Value} {B newId initId : String}
theorem check_new_kw (F : ExcBaseFacts B newId initId bmB) (hT : ∀ X : String, bm.contains (.type X) = bmB.contains (.type X)) {rest : List Value} {kw : List (Str × Value)} {Q : Unit → Shared → Prop}
    (hC : h.get? C = some (excClassObj nm q C N bs bm hdct sn sub ab col dd k0 k1 k2 k3 k5 newId)) (hq : Q () ⟨h, g, d, t, os⟩) : wpAny M A (checkBuiltinCall newId ⟨.ref C :: rest, kw⟩) Q E ⟨h, g, d, t, os⟩ := by
  have hcont : (Value.ref C :: bm).contains (.type B) = true := by rw [List.contains_cons, hT, F.hasB, Bool.or_true]
  have hstar := F.noStar
  simp only [checkBuiltinCall, F.newKind, F.newSplit, F.newRow]
  repeat (first | refine wpAny_loadPart_at hC ?_ | (refine wpAny_isSubtype_exc hC ?_; rw [hcont]) | refine wpAny_staticBase_exc hC ?_ | refine wpAny_madeBy_exc hC ?_ | simp only [bne_self_eq_false, Bool.false_eq_true, if_false] | wp_step)
  exact hq
theorem check_type_kw {rest : List Value} {kw : List (Str × Value)} {Q : Unit → Shared → Prop} (hC : h.get? C = some (excClassObj nm q C N bs bm hdct sn sub ab col dd k0 k1 k2 k3 k5 newId))
    (hq : Q () ⟨h, g, d, t, os⟩) : wpAny M A (checkBuiltinCall "type.__call__" ⟨.ref C :: rest, kw⟩) Q E ⟨h, g, d, t, os⟩ := by
  refine PySem.W.check_slot tc_kind tc_split ?_ (PySem.W.tc_args _ _ _) hq
  have f3 := tc_sub
  intro A' Q' E' s' k q
  obtain ⟨h', g', d', t', os'⟩ := s'
  have hC' : h'.get? C = some (excClassObj nm _ C N bs bm hdct sn sub ab col dd k0 k1 k2 k3 k5 newId) := k _ _ hC
  have hT' : (⟨h', g', d', t', os'⟩ : Shared).TypeIs (.ref C) "type" := ⟨_, hC', rfl⟩
  unfold isInstance
  repeat (any_goals (first | assumption | with_reducible refine wpAny_loadPart_at hC' ?_ | wp_step))
end
section
variable {prog : Program} {w : World} {A : Around} {E : Value → Shared → Prop} {R : Result → Shared → Prop} {h : Heap} {g : Array GenState} {d : Drawn} {t : Nat} {os : OsState}
variable {nm q : Str} {C N : Addr} {bs bm bmB : List Value} {hdct : Bool} {sn : List Str} {sub : List Value} {ab : Bool} {col : Option Bool} {dd : Option Addr} {k0 k1 k2 k3 k5 : Option Value} {B newId initId : String}
theorem new_kw (F : ExcBaseFacts B newId initId bmB) (hT : ∀ X : String, bm.contains (.type X) = bmB.contains (.type X)) {rest : List Value} {kw : List (Str × Value)}
    (hC : h.get? C = some (excClassObj nm q C N bs bm hdct sn sub ab col dd k0 k1 k2 k3 k5 newId))
    (hq : R (.ok (.ret (.ref (h.objs.size + 1)))) ⟨(h.push { cls := .type "tuple", data := .seq rest.toArray }).push
      { cls := .ref C, data := .fields #[.ref h.objs.size, .none, .none, .none, .bool false, .none] }, g, d, t, os⟩) (hrest : rest.length ≤ sizeLine) :
    codeAny (model prog w) A (.builtin newId ⟨.ref C :: rest, kw⟩) R ⟨h, g, d, t, os⟩ := by
  have hends := F.ends
  have hcB : (Value.ref C :: bm).contains (.type B) = true := by rw [List.contains_cons, hT, F.hasB, Bool.or_true]
  have hcA : (Value.ref C :: bm).contains (.type "AttributeError") = false := by rw [List.contains_cons, hT, F.noAttr]; rfl
  have hcN : (Value.ref C :: bm).contains (.type "NameError") = false := by rw [List.contains_cons, hT, F.noName]; rfl
  refine codeAny_builtinAt F.entry ?_
  unfold Builtin.«BaseException.__new__»
  refine wpAt_bind ?_
  show wpAt _ _ _ (stack >>= _) _ _ _
  refine wpAt_bind (wpAt_stack fun p below => wpAt_of_wpAny ?_)
  wp_walk
  refine wpAt_of_wpAny ?_
  rw [F.owner]
  repeat (first | with_reducible refine wpAny_madeHere_exc F.canon hC ?_ | with_reducible refine wpAny_loadPart_at hC ?_ | (with_reducible refine wpAny_isSubtype_exc hC ?_; first | rw [hcB] | rw [hcA] | rw [hcN]) | wp_step)
  show R _ _
  rw [Heap.size_push]
  exact hq
theorem type_call_kw (F : ExcBaseFacts B newId initId bmB) (hT : ∀ X : String, bm.contains (.type X) = bmB.contains (.type X)) {rest : List Value} {kw : List (Str × Value)} {fI : Addr} {Q : Fin → Shared → Prop}
    (hC : h.get? C = some (excClassObj nm q C N bs bm hdct sn sub ab col dd k0 k1 k2 k3 k5 newId))
    (hi : W.Looks (model prog w) h (typeLookup (.ref C) "__init__") (some (.ref fI))) (hb : ∀ self, W.Looks (model prog w) h (bindSpecial (.ref fI) self) (.ref fI, [self])) (hrest : rest.length ≤ sizeLine)
    (hq : codeAny (model prog w) A (.call (.ref fI) ⟨.ref (h.objs.size + 1) :: rest, kw⟩)
      (fun r s' => match r with | .ok (.ret v) => v = .none ∧ Q (.done (.ret (.ref (h.objs.size + 1)))) s' | .ok _ => False | .error e => E e s')
      ⟨(h.push (W.kdv_tup rest)).push (excO C h.objs.size), g, d, t, os⟩) :
    wpAny (model prog w) A (Builtin.«type.__call__» ⟨.ref C :: rest, kw⟩) Q E ⟨h, g, d, t, os⟩ := by
  repeat (first | with_reducible refine wpAny_loadPart_at hC ?_ | with_reducible refine wpAny_madeBy_exc hC ?_ | wp_step)
  refine codeAny_call_builtin_code (Code.quiet_builtin _ F.quiet) (check_new_kw F hT hC ?_)
  refine new_kw F hT hC ?_ hrest
  show wpAny _ _ _ _ _ _
  have k : ∀ b o, h.get? b = some o → ((h.push (W.kdv_tup rest)).push (excO C h.objs.size)).get? b = some o := fun b o e => Heap.get?_push_of_some _ (Heap.get?_push_of_some _ e)
  have hC₁ := k _ _ hC
  have hget : ((h.push (W.kdv_tup rest)).push (excO C h.objs.size)).get? (h.objs.size + 1) = some (excO C h.objs.size) := by heap_get
  have hcC : (Value.ref C :: bm).contains (.ref C) = true := by simp
  have i1 := hi.keeps k
  have b1 := (hb (.ref (h.objs.size + 1))).keeps k
  unfold isInstance
  repeat (first | with_reducible refine wpAny_loadPart_at hget ?_ | (with_reducible refine wpAny_isSubtype_exc hC₁ ?_; rw [hcC]) | wp_step)
  show wpAny _ _ (typeLookup (.ref C) _) _ _ _
  refine i1.at ?_
  refine wpAny_holding (wpAny_bind (b1.at ?_))
  refine wpAny_bind (wpAny_call (codeAny_mono hq fun r s' z => ?_))
  rcases r with e | (v | _ | _ | _) <;> first | exact z | exact z.elim | skip
  obtain ⟨rfl, z⟩ := z
  first
    | exact wpAny_pure (wpAny_pure z)
    | (wp_walk; exact z)
theorem call_kw (F : ExcBaseFacts B newId initId bmB) (hT : ∀ X : String, bm.contains (.type X) = bmB.contains (.type X)) {rest : List Value} {kw : List (Str × Value)} {fI : Addr}
    (hC : h.get? C = some (excClassObj nm q C N bs bm hdct sn sub ab col dd k0 k1 k2 k3 k5 newId))
    (hi : W.Looks (model prog w) h (typeLookup (.ref C) "__init__") (some (.ref fI))) (hb : ∀ self, W.Looks (model prog w) h (bindSpecial (.ref fI) self) (.ref fI, [self])) (hrest : rest.length ≤ sizeLine)
    (hq : codeAny (model prog w) (A.under (.builtin "type.__call__" ⟨.ref C :: rest, kw⟩)) (.call (.ref fI) ⟨.ref (h.objs.size + 1) :: rest, kw⟩) (W.InitBack (h.objs.size + 1) R)
      ⟨(h.push (W.kdv_tup rest)).push (excO C h.objs.size), g, d, t, os⟩) :
    codeAny (model prog w) A (.call (.ref C) ⟨rest, kw⟩) R ⟨h, g, d, t, os⟩ := by
  have f1 := tc_lookup
  have f2 := tc_bind (.ref C)
  have hTy : (⟨h, g, d, t, os⟩ : Shared).TypeIs (.ref C) "type" := ⟨_, hC, rfl⟩
  refine codeAny_of_tree ?_
  show wpAny _ _ (callAny (.ref C) _) _ _ _
  repeat (any_goals (first | assumption | with_reducible refine wpAny_loadPart_at hC ?_ | wp_step))
  refine ⟨rfl, ?_⟩
  refine codeAny_call_builtin_at (Code.quiet_builtin _ (by decide +kernel)) entry_typeCall (check_type_kw hC (type_call_kw F hT hC hi hb hrest ?_))
  refine codeAny_mono hq fun r s' z => ?_
  rcases r with e | (v | _ | _ | _) <;> exact z
end
end HandSPX
end PySem
namespace Mv
open PySem PySem.Spec PyProof.Rows L2
section
variable {X : Cx} {pins : List (Addr × Obj)} {σ : L2.St} {H1 : Hp} {s1 : Shared} {Q : VK} {us ws ds : List Value} {vs zs dvs : List V} {C fI : Addr} {k : Nat} {fd : FuncData} {ps ks : List Str} {sp : Sp} {g : List Value → List Value → List Value} {gV : List V → List V → List V}
/-- an own error is made and kept -/
theorem exv_call (T : Oex X.K C) (iC : PySem.W.findIn X.K (.ref C) "__init__" = some (some (.ref fI))) (tI : PySem.W.typeIn X.K (.ref fI) = some (.type "function")) (F1 : FnOk X.prog X.w X.K X.mg X.base CX0 k fI fd ps sp) (hr : Room (k + 1) X.A) (hb : Binds X.K fd ps ds) (hd : Vals dvs ds)
    (I1 : Inv X pins σ H1 s1) (r1 : Vals vs us) (hz : vs.length ≤ 1000)
    (q1 : ∀ a, H1 a = none → sp (.ref a :: (vs ++ dvs)) (upd H1 a (exo a C none)) (fun v H2 => v = .non ∧ Q (.ref a) H2) E0) :
    wpAny (model X.prog X.w) X.A (call (.ref C) us) (EP X pins σ Q) X.xe s1 := by
  obtain ⟨B, n1, n2, bmB, FB, SF, ei, ov⟩ := T.ex
  obtain ⟨nm, N, qn, bs, bm, hdct, sn, sub, ab, col, dd, k0, k1, k2, k3, k5, hC, hT⟩ := PySem.W.excInit_of I1.kIn ei
  obtain ⟨hp, g, dr, tk, os⟩ := s1
  have hsz : hp.objs.size ≤ hp.objs.size + 1 := Nat.le_succ _
  have hn : H1 (hp.objs.size + 1) = none := I1.hok.fresh hsz
  have hq := q1 (hp.objs.size + 1) hn
  have kk : ∀ b o, hp.get? b = some o → ((hp.push (PySem.W.kdv_tup us)).push (PySem.HandSPX.excO C hp.objs.size)).get? b = some o := fun b o e => Heap.get?_push_of_some _ (Heap.get?_push_of_some _ e)
  have hget : ((hp.push (PySem.W.kdv_tup us)).push (PySem.HandSPX.excO C hp.objs.size)).get? (hp.objs.size + 1) = some (PySem.HandSPX.excO C hp.objs.size) := by heap_get
  have I2 := I1.laid (t' := tk) (a := hp.objs.size + 1) (o := exo (hp.objs.size + 1) C none) (h' := (hp.push (PySem.W.kdv_tup us)).push (PySem.HandSPX.excO C hp.objs.size)) kk hsz (exo_ok hget)
  have r2 : Vals (V.ref (hp.objs.size + 1) :: (vs ++ dvs)) (Value.ref (hp.objs.size + 1) :: (us ++ ds)) := .cons rfl (r1.append hd)
  have hl : (Value.ref (hp.objs.size + 1) :: us ++ ds).length = ps.length := by
    have e := r2.length
    rw [F1.len _ _ _ _ hq] at e
    exact e.symm
  have hus : us.length ≤ sizeLine := by rw [← Paired.length r1, sizeLine_eq]; omega
  refine wpAny_call (PySem.HandSPX.call_own FB hT hC (PySem.W.looks_findIn I1.kIn iC) (fun self => PySem.W.bind_fn I1.kIn self tI) hus
    (codeAny_mono (F1.run _ X.stack _ _ ⟨Value.ref (hp.objs.size + 1) :: us, []⟩ (Value.ref (hp.objs.size + 1) :: (us ++ ds)) _ _ E0 (hr.make C us []) (I2.env0.make C us []) (hb _ (Value.ref (hp.objs.size + 1) :: us) I2.kIn hl) r2 hq) fun r s' hq' => ?_))
  cases r with
  | error er => exact (show False from hq').elim
  | ok fl =>
    cases fl with
    | ret u =>
      obtain ⟨v, H', I3, rv, ev, q3⟩ := I2.after hq'
      subst ev
      exact ⟨rv, ⟨V.ref (hp.objs.size + 1), H', I3, rfl, q3⟩⟩
    | next => exact False.elim hq'
    | brk => exact False.elim hq'
    | cont => exact False.elim hq'
/-- .. by keywords -/
theorem exv_kw (T : Oex X.K C) (iC : PySem.W.findIn X.K (.ref C) "__init__" = some (some (.ref fI))) (tI : PySem.W.typeIn X.K (.ref fI) = some (.type "function")) (F1 : FnOk X.prog X.w X.K X.mg X.base CX0 k fI fd ps sp) (hr : Room (k + 1) X.A) (hb : KBn X.K fd ps 1 ks g gV)
    (I1 : Inv X pins σ H1 s1) (rz : Vals zs ws) (l2 : zs.length = ks.length)
    (q1 : ∀ a, H1 a = none → sp (gV [.ref a] zs) (upd H1 a (exo a C none)) (fun v H2 => v = .non ∧ Q (.ref a) H2) E0) :
    wpAny (model X.prog X.w) X.A (call (.ref C) [] (ks.zip ws)) (EP X pins σ Q) X.xe s1 := by
  obtain ⟨B, n1, n2, bmB, FB, SF, ei, ov⟩ := T.ex
  obtain ⟨nm, N, qn, bs, bm, hdct, sn, sub, ab, col, dd, k0, k1, k2, k3, k5, hC, hT⟩ := PySem.W.excInit_of I1.kIn ei
  obtain ⟨hp, gs, dr, tk, os⟩ := s1
  have hsz : hp.objs.size ≤ hp.objs.size + 1 := Nat.le_succ _
  have hn : H1 (hp.objs.size + 1) = none := I1.hok.fresh hsz
  have hq := q1 (hp.objs.size + 1) hn
  have kk : ∀ b o, hp.get? b = some o → ((hp.push (PySem.W.kdv_tup [])).push (PySem.HandSPX.excO C hp.objs.size)).get? b = some o := fun b o e => Heap.get?_push_of_some _ (Heap.get?_push_of_some _ e)
  have hget : ((hp.push (PySem.W.kdv_tup [])).push (PySem.HandSPX.excO C hp.objs.size)).get? (hp.objs.size + 1) = some (PySem.HandSPX.excO C hp.objs.size) := by heap_get
  have I2 := I1.laid (t' := tk) (a := hp.objs.size + 1) (o := exo (hp.objs.size + 1) C none) (h' := (hp.push (PySem.W.kdv_tup [])).push (PySem.HandSPX.excO C hp.objs.size)) kk hsz (exo_ok hget)
  have r1 : Vals [V.ref (hp.objs.size + 1)] [Value.ref (hp.objs.size + 1)] := .cons rfl .nil
  have r2 := hb.rel r1 rz
  have hus : ([] : List Value).length ≤ sizeLine := Nat.zero_le _
  refine wpAny_call (PySem.HandSPX.call_kw FB hT hC (PySem.W.looks_findIn I1.kIn iC) (fun self => PySem.W.bind_fn I1.kIn self tI) hus
    (codeAny_mono (F1.run _ X.stack _ _ ⟨[Value.ref (hp.objs.size + 1)], ks.zip ws⟩ (g [Value.ref (hp.objs.size + 1)] ws) _ _ E0 (hr.make C [] (ks.zip ws)) (I2.env0.make C [] (ks.zip ws)) (hb.to _ [Value.ref (hp.objs.size + 1)] ws I2.kIn rfl (rz.length.symm.trans l2)) r2 hq) fun r s' hq' => ?_))
  cases r with
  | error er => exact (show False from hq').elim
  | ok fl =>
    cases fl with
    | ret u =>
      obtain ⟨v, H', I3, rv, ev, q3⟩ := I2.after hq'
      subst ev
      exact ⟨rv, ⟨V.ref (hp.objs.size + 1), H', I3, rfl, q3⟩⟩
    | next => exact False.elim hq'
    | brk => exact False.elim hq'
    | cont => exact False.elim hq'
end
/-- self, and two keywords turned -/
def kSf2 {α : Type} (vs zs : List α) : List α := match vs, zs with
  | [s], [a, b] => [s, b, a]
  | vs, zs => vs ++ zs
theorem kSf2_rel {vs zs : List V} {us ws : List Value} (h1 : Vals vs us) (h2 : Vals zs ws) : Vals (kSf2 vs zs) (kSf2 us ws) := by
  cases h1 with
  | nil => exact h2
  | cons s h1 =>
    cases h1 with
    | cons a h1 => exact Vals.append (.cons s (.cons a h1)) h2
    | nil =>
      cases h2 with
      | nil => exact .cons s .nil
      | cons a h =>
        cases h with
        | nil => exact .cons s (.cons a .nil)
        | cons b h =>
          cases h with
          | nil => exact .cons s (.cons b (.cons a .nil))
          | cons c h => exact .cons s (.cons a (.cons b (.cons c h)))
/-- an error that can be kept: one value, f its name -/
structure Ev1 (P : Program) (w : World) (K : PySem.W.Frag) (mg : Str → Option Value) (base : Heap) (x : Str) (C : Addr) (f : Str) : Prop where
  k : ExK K mg x C
  no : PySem.W.findIn K (.ref C) f = some none
  init : ∃ (fI : Addr) (fd : FuncData) (ps : List Str) (g : List Value → List Value → List Value), FnOk P w K mg base CX0 1 fI fd ps (sp_exi1 K f) ∧ PySem.W.findIn K (.ref C) "__init__" = some (some (.ref fI)) ∧ PySem.W.typeIn K (.ref fI) = some (.type "function") ∧ Binds K fd ps [] ∧ KBn K fd ps 1 [f] g kId
structure Ev2 (P : Program) (w : World) (K : PySem.W.Frag) (mg : Str → Option Value) (base : Heap) (x : Str) (C : Addr) (f g : Str) : Prop where
  k : ExK K mg x C
  no : PySem.W.findIn K (.ref C) f = some none
  no2 : PySem.W.findIn K (.ref C) g = some none
  init : ∃ (fI : Addr) (fd : FuncData) (ps : List Str) (gg : List Value → List Value → List Value), FnOk P w K mg base CX0 1 fI fd ps (sp_exi2 K f g) ∧ PySem.W.findIn K (.ref C) "__init__" = some (some (.ref fI)) ∧ PySem.W.typeIn K (.ref fI) = some (.type "function") ∧ Binds K fd ps [] ∧ KBn K fd ps 1 [g, f] gg kSf2
/-- .. no value at all -/
structure Ev0 (K : PySem.W.Frag) (mg : Str → Option Value) (x : Str) (C : Addr) : Prop where
  k : ExK K mg x C
  ex : ∃ (B newId initId : String) (bmB : List Value), ExcBaseFacts B newId initId bmB ∧ PySem.W.excIn K C bmB newId = true
theorem ev0B_ok {K : PySem.W.Frag} {C : Addr} (h : ev0B K C = true) : ∃ (B newId initId : String) (bmB : List Value), ExcBaseFacts B newId initId bmB ∧ PySem.W.excIn K C bmB newId = true := by
  rcases Bool.or_eq_true_iff.mp h with z | z
  · exact ⟨_, _, _, _, F.excBase_ValueError, z⟩
  rcases Bool.or_eq_true_iff.mp z with z | z
  · exact ⟨_, _, _, _, F.excBase_RuntimeError, z⟩
  rcases Bool.or_eq_true_iff.mp z with z | z
  · exact ⟨_, _, _, _, F.excBase_LookupError, z⟩
  · exact ⟨_, _, _, _, F.excBase_ArithmeticError, z⟩
/-- what is told of a kept error: its class, its fields -/
structure EvAt (H : Hp) (a C : Addr) (fs : List (Str × V)) : Prop where
  ex : ∃ d, H a = some (exo a C (some d)) ∧ H d = some (exd d fs)
def Ev1R (C : Addr) (f : Str) (Q : VK) : List V → Hp → Prop := fun vs H1 => ∃ v, vs = [v] ∧ ∀ a H', Same H1 H' → EvAt H' a C [(f, v)] → Q (.ref a) H'
def Ev2R (C : Addr) (f g : Str) (Q : VK) : List V → Hp → Prop := fun vs H1 => ∃ v u, vs = [v, u] ∧ ∀ a H', Same H1 H' → EvAt H' a C [(g, u), (f, v)] → Q (.ref a) H'
def Ev2K (C : Addr) (f g : Str) (Q : VK) : List V → Hp → Prop := fun vs H1 => ∃ v u, vs = [u, v] ∧ ∀ a H', Same H1 H' → EvAt H' a C [(g, u), (f, v)] → Q (.ref a) H'
def tEv1 (C : Addr) (f : Str) (ta : TA) : TE := fun σ H Q => ta σ H (Ev1R C f Q)
def tEv2 (C : Addr) (f g : Str) (ta : TA) : TE := fun σ H Q => ta σ H (Ev2R C f g Q)
def tEvK (C : Addr) (f g : Str) (ta : TA) : TE := fun σ H Q => ta σ H (Ev2K C f g Q)
def tEv0 (C : Addr) : TE := fun _ H Q => ∀ a H', Same H H' → H' a = some (exo a C none) → Q (.ref a) H'
theorem ev_same {H : Hp} {a dx : Addr} {G : Hp} (ha : H a = none) (hd : H dx = none) (hG : ∀ b, b ≠ a → b ≠ dx → G b = H b) : Same H G := fun b o e => by
  rw [hG b (ne_of_none e ha) (ne_of_none e hd)]
  exact e
section
variable {X : Cx} {x f g : Str} {C : Addr} {j : Nat} {e e2 : Expr} {ta : TA} {p pos : Pos} {kws : List Keyword}
theorem pe_ev1 (c : Ev1 X.prog X.w X.K X.mg X.base x C f) (hr : Room j X.A) (hk : 2 ≤ j) (hg : Gl X x) (ha : PA X [e] ta)
    (hdb : (x == ("__debug__" : Str)) = false := by decide) (he : starEach (e :: []) X.env = (false, eval e X.env) :: starEach [] X.env := by rfl) (hpl : (backTo pos (starEach [] X.env)).any (·.1) = false := by rfl) :
    PE X (.Call (.Name x p) [e] [] pos) (tEv1 C f ta) := by
  refine ⟨fun pins s σ H Q I h => ?_⟩
  obtain ⟨fI, fd, ps, _, F1, iC, tI, b, _⟩ := c.init
  have T := c.k.T
  refine wpAny_Call_Name_kw (ld_glob I hg c.k.g ?_ hdb)
  refine PySem.W.callWith_K (h₀ := X.base) I.ok.mod.kin T.kC (thn (ha.run pos pins s σ H _ I h) fun us s1 ⟨vs, H1, I1, r1, v, ev, q1⟩ => ⟨I1.kIn, ?_⟩) he hpl
  subst ev
  refine exv_call (vs := [v]) (dvs := []) T iC tI F1 (hr.mono hk) b .nil I1 r1 (by show 1 ≤ 1000; decide) fun a na => ?_
  refine ⟨a, C, v, rfl, T, c.no, upd_same, fun dx nx ne => ⟨rfl, ?_⟩⟩
  rw [upd_ne ne] at nx
  refine q1 a _ (ev_same na nx fun b h1 h2 => by rw [upd_ne h1, upd_ne h2, upd_ne h1]) ⟨⟨dx, upd_same, ?_⟩⟩
  rw [upd_ne ne, upd_same]
theorem pe_ev2 (c : Ev2 X.prog X.w X.K X.mg X.base x C f g) (hr : Room j X.A) (hk : 2 ≤ j) (hg : Gl X x) (ha : PA X [e, e2] ta)
    (hdb : (x == ("__debug__" : Str)) = false := by decide) (he : starEach (e :: [e2]) X.env = (false, eval e X.env) :: starEach [e2] X.env := by rfl) (hpl : (backTo pos (starEach [e2] X.env)).any (·.1) = false := by rfl) :
    PE X (.Call (.Name x p) [e, e2] [] pos) (tEv2 C f g ta) := by
  refine ⟨fun pins s σ H Q I h => ?_⟩
  obtain ⟨fI, fd, ps, _, F1, iC, tI, b, _⟩ := c.init
  have T := c.k.T
  refine wpAny_Call_Name_kw (ld_glob I hg c.k.g ?_ hdb)
  refine PySem.W.callWith_K (h₀ := X.base) I.ok.mod.kin T.kC (thn (ha.run pos pins s σ H _ I h) fun us s1 ⟨vs, H1, I1, r1, v, u, ev, q1⟩ => ⟨I1.kIn, ?_⟩) he hpl
  subst ev
  refine exv_call (vs := [v, u]) (dvs := []) T iC tI F1 (hr.mono hk) b .nil I1 r1 (by show 2 ≤ 1000; decide) fun a na => ?_
  refine ⟨a, C, v, u, rfl, T, c.no, c.no2, upd_same, fun dx nx ne => ⟨rfl, ?_⟩⟩
  rw [upd_ne ne] at nx
  refine q1 a _ (ev_same na nx fun b h1 h2 => by rw [upd_ne h2, upd_ne h1, upd_ne h2, upd_ne h1]) ⟨⟨dx, ?_, upd_same⟩⟩
  rw [upd_ne (Ne.symm ne), upd_same]
theorem pe_evk1 (c : Ev1 X.prog X.w X.K X.mg X.base x C f) (hr : Room j X.A) (hk : 2 ≤ j) (hg : Gl X x) (hkw : PK X kws ta)
    (hall : (backToKw pos (keywordEach kws X.env)).all (·.1.isSome) = true := by rfl) (hks : (backToKw pos (keywordEach kws X.env)).filterMap (·.1) = [f] := by rfl)
    (hdb : (x == ("__debug__" : Str)) = false := by decide) (hpl : ((backTo pos (starEach [] X.env)).any (·.1) || (backToKw pos (keywordEach kws X.env)).any (·.1.isNone)) = false := by rfl) :
    PE X (.Call (.Name x p) [] kws pos) (tEv1 C f ta) := by
  refine ⟨fun pins s σ H Q I h => ?_⟩
  obtain ⟨fI, fd, ps, _, F1, iC, tI, _, b⟩ := c.init
  have T := c.k.T
  refine wpAny_Call_Name_kw (ld_glob I hg c.k.g ?_ hdb)
  refine PySem.W.callWith_KW0 (h₀ := X.base) I.ok.mod.kin T.kC hall ?_ hpl
  refine thn (hkw.run pos pins s σ H _ I h) fun ws s2 ⟨zs, H1, I1, rz, v, ev, q1⟩ => ⟨I1.kIn, ?_⟩
  rw [hks]
  subst ev
  refine exv_kw (zs := [v]) T iC tI F1 (hr.mono hk) b I1 rz rfl fun a na => ?_
  refine ⟨a, C, v, rfl, T, c.no, upd_same, fun dx nx ne => ⟨rfl, ?_⟩⟩
  rw [upd_ne ne] at nx
  refine q1 a _ (ev_same na nx fun b h1 h2 => by rw [upd_ne h1, upd_ne h2, upd_ne h1]) ⟨⟨dx, upd_same, ?_⟩⟩
  rw [upd_ne ne, upd_same]
theorem pe_evk2 (c : Ev2 X.prog X.w X.K X.mg X.base x C f g) (hr : Room j X.A) (hk : 2 ≤ j) (hg : Gl X x) (hkw : PK X kws ta)
    (hall : (backToKw pos (keywordEach kws X.env)).all (·.1.isSome) = true := by rfl) (hks : (backToKw pos (keywordEach kws X.env)).filterMap (·.1) = [g, f] := by rfl)
    (hdb : (x == ("__debug__" : Str)) = false := by decide) (hpl : ((backTo pos (starEach [] X.env)).any (·.1) || (backToKw pos (keywordEach kws X.env)).any (·.1.isNone)) = false := by rfl) :
    PE X (.Call (.Name x p) [] kws pos) (tEvK C f g ta) := by
  refine ⟨fun pins s σ H Q I h => ?_⟩
  obtain ⟨fI, fd, ps, _, F1, iC, tI, _, b⟩ := c.init
  have T := c.k.T
  refine wpAny_Call_Name_kw (ld_glob I hg c.k.g ?_ hdb)
  refine PySem.W.callWith_KW0 (h₀ := X.base) I.ok.mod.kin T.kC hall ?_ hpl
  refine thn (hkw.run pos pins s σ H _ I h) fun ws s2 ⟨zs, H1, I1, rz, v, u, ev, q1⟩ => ⟨I1.kIn, ?_⟩
  rw [hks]
  subst ev
  refine exv_kw (zs := [u, v]) T iC tI F1 (hr.mono hk) b I1 rz rfl fun a na => ?_
  refine ⟨a, C, v, u, rfl, T, c.no, c.no2, upd_same, fun dx nx ne => ⟨rfl, ?_⟩⟩
  rw [upd_ne ne] at nx
  refine q1 a _ (ev_same na nx fun b h1 h2 => by rw [upd_ne h2, upd_ne h1, upd_ne h2, upd_ne h1]) ⟨⟨dx, ?_, upd_same⟩⟩
  rw [upd_ne (Ne.symm ne), upd_same]
/-- X() -/
theorem pe_ev0 (c : Ev0 X.K X.mg x C) (hg : Gl X x) (hdb : (x == ("__debug__" : Str)) = false := by decide) :
    PE X (.Call (.Name x p) [] [] pos) (tEv0 C) := by
  refine ⟨fun pins s σ H Q I h => ?_⟩
  obtain ⟨B, n1, n2, bmB, F, q⟩ := c.ex
  refine wpAny_Call_Name_kw (ld_glob I hg c.k.g ?_ hdb)
  refine PySem.W.callWith_K0 I.kIn c.k.T.kC ?_
  show wpAny _ _ (call (.ref C) []) _ _ _
  obtain ⟨bm, N, nm, qn, bs, hdct, sn, sub, ab, col, dd, k0, k1, k2, k3, k5, mN, hC, hN, hni, T⟩ := exc_obj I.kIn q
  refine wpAny_call_exc_subT F T hC hN hni (fun h' a hm => ?_) (Nat.zero_le _)
  have hn : H a = none := I.hok.gone hm.new
  obtain ⟨t, ht, _, _⟩ := hm.there
  exact ⟨.ref a, upd H a (exo a C none), I.laidN hm.keeps hm.new hn (exo_ok ht), rfl, h a _ (fun b o e => by rw [upd_ne (ne_of_none e hn)]; exact e) upd_same⟩
end
/-! ### what is asked of a kept error -/
/-- err.f -/
def EvfR (K : PySem.W.Frag) (n : Str) (Q : VK) : VK := fun x H1 => ∃ a C fs v, x = .ref a ∧ EvAt H1 a C fs ∧ L2.XfC K C ∧ PySem.W.findIn K (.ref C) n = some none ∧ fs.lookup n = some v ∧ Q v H1
def tEvf (K : PySem.W.Frag) (n : Str) (te : TE) : TE := fun σ H Q => te σ H (EvfR K n Q)
theorem pe_evf {X : Cx} {K : PySem.W.Frag} {e : Expr} {te : TE} {pos : Pos} {n : Str} (eK : X.K = K) (he : PE X e te) (hb : attributeBase e n X.env (eval e X.env) = eval e X.env := by rfl) : PE X (.Attribute e n pos) (tEvf K n te) := by
  subst eK
  refine ⟨fun pins s σ H Q I h => ?_⟩
  refine attr_of hb (thn (he.run pins s σ H _ I h) fun u s1 hh => ?_)
  obtain ⟨x, H1, I1, rx, a, C, fs, v, ex, ⟨⟨dd, ea, ed⟩⟩, T, hno, l, q⟩ := hh
  subst ex
  obtain rfl : u = Value.ref a := rx
  obtain ⟨t1, ho⟩ := exo_at I1.hok ea
  obtain ⟨mA, hns, hr⟩ := exd_at I1.hok ed
  obtain ⟨od, hod, hl⟩ := lookIn_ns hns
  obtain ⟨u, hu, ru⟩ := RelO.some_of (v := v) (o := mA n) (by rw [← l]; exact hr n)
  have J : PySem.W.InstAt s1.heap a { cls := .ref C, dict := some dd, data := .fields #[.ref t1, .none, .none, .none, .bool false, .none] } C (some od) := ⟨ho, rfl, rfl, hod⟩
  exact HandSPX.exc_get I1.kIn J T.ga T.gg T.exC (PySem.W.findObj_own T.hdC hno rfl (by rw [hl, hu])) (handed_of ru) ⟨v, H1, I1.tok _, ru, q⟩
/-- an error of the class at C stands at a: with its fields, or with none -/
structure EvIs (H : Hp) (a C : Addr) : Prop where
  ex : H a = some (exo a C none) ∨ ∃ fs, EvAt H a C fs
/-- isinstance(err, c) -/
def rIsV (K : PySem.W.Frag) : List V → Hp → VK → Prop := fun xs H Q => ∃ (a D : Addr) (c : V) (cv : Value) (b : Bool), xs = [.ref a, c] ∧ EvIs H a D ∧ L2.ExcC K D ∧ (∀ u, RelV c u → u = cv) ∧ PySem.W.kitOne K (.ref D) cv = some b ∧ Q (.bl b) H
theorem call_isV {X : Cx} {K : PySem.W.Frag} (eK : X.K = K) : CallR X (.builtin "isinstance") (rIsV K) := by
  subst eK
  intro pins s σ H xs us Q I r h
  obtain ⟨a, D, c, cv, b, rfl, hd, C, hcv, e, q⟩ := h
  cases r with
  | cons rx rr =>
    cases rr with
    | cons rt rr =>
      cases rr
      cases rx
      have eq := hcv _ rt
      subst eq
      have hcl : (PySem.W.clsIn X.K D).isSome = true := by
        obtain ⟨cd, hc, _⟩ := PySem.W.any_some C.hd
        rw [hc]
        rfl
      rcases hd.ex with ea | ⟨fs, ⟨⟨dd, ea, ed⟩⟩⟩
      · obtain ⟨t1, ho⟩ := exo_at I.hok ea
        have J : PySem.W.InstAt s.heap a { cls := .ref D, dict := none, data := .fields #[.ref t1, .none, .none, .none, .bool false, .none] } D none := ⟨ho, rfl, rfl, trivial⟩
        exact PySem.W.kia_one (PySem.W.kitx_exc hcl C.hg C.hk C.hs C.ha C.hn C.ht C.hm) I.kIn J e (fun z => nomatch z) fun tk => ⟨.bl b, H, I.kept (t' := tk) fun _ _ z => z, rfl, q⟩
      · obtain ⟨t1, ho⟩ := exo_at I.hok ea
        obtain ⟨mA, hns, hr⟩ := exd_at I.hok ed
        obtain ⟨od, hod, hl⟩ := lookIn_ns hns
        have J : PySem.W.InstAt s.heap a { cls := .ref D, dict := some dd, data := .fields #[.ref t1, .none, .none, .none, .bool false, .none] } D (some od) := ⟨ho, rfl, rfl, hod⟩
        exact PySem.W.kia_one (PySem.W.kitx_exc hcl C.hg C.hk C.hs C.ha C.hn C.ht C.hm) I.kIn J e (fun z => nomatch z) fun tk => ⟨.bl b, H, I.kept (t' := tk) fun _ _ z => z, rfl, q⟩
/-! ### readings -/
section
variable {K : PySem.W.Frag} {C a : Addr} {f g n : Str} {σ : L2.St} {H H' : Hp} {Q : VK} {v u : V} {ta : TA} {te : TE} {fs : List (Str × V)} {y : String} {b : Bool} {D : Addr}
theorem go_ev1 (q : ta σ H (Ev1R C f Q)) : tEv1 C f ta σ H Q := q
theorem go_ev2 (q : ta σ H (Ev2R C f g Q)) : tEv2 C f g ta σ H Q := q
theorem go_evk (q : ta σ H (Ev2K C f g Q)) : tEvK C f g ta σ H Q := q
theorem go_ev1r (q : ∀ a H', Same H H' → EvAt H' a C [(f, v)] → Q (.ref a) H') : Ev1R C f Q [v] H := ⟨v, rfl, q⟩
theorem go_ev2r (q : ∀ a H', Same H H' → EvAt H' a C [(g, u), (f, v)] → Q (.ref a) H') : Ev2R C f g Q [v, u] H := ⟨v, u, rfl, q⟩
theorem go_evkr (q : ∀ a H', Same H H' → EvAt H' a C [(g, u), (f, v)] → Q (.ref a) H') : Ev2K C f g Q [u, v] H := ⟨v, u, rfl, q⟩
theorem go_ev0 (q : ∀ a H', Same H H' → H' a = some (exo a C none) → Q (.ref a) H') : tEv0 C σ H Q := q
theorem go_evf (q : te σ H (EvfR K n Q)) : tEvf K n te σ H Q := q
theorem go_evfr (h : EvAt H a C fs) (T : L2.XfC K C) (hno : PySem.W.findIn K (.ref C) n = some none) (l : fs.lookup n = some v) (q : Q v H) : EvfR K n Q (.ref a) H := ⟨a, C, fs, v, rfl, h, T, hno, l, q⟩
theorem go_isV (h : EvIs H a D) (hc : L2.ExcC K D) (e : PySem.W.kitOne K (.ref D) (.ref C) = some b) (q : Q (.bl b) H) : rIsV K [.ref a, .ref C] H Q := ⟨a, D, .ref C, .ref C, b, rfl, h, hc, fun _ r => r, e, q⟩
theorem go_isVt (h : EvIs H a D) (hc : L2.ExcC K D) (e : PySem.W.kitOne K (.ref D) (.type y) = some b) (q : Q (.bl b) H) : rIsV K [.ref a, .ty y] H Q := ⟨a, D, .ty y, .type y, b, rfl, h, hc, fun _ r => r, e, q⟩
theorem EvAt.same (h : EvAt H a C fs) (s : Same H H') : EvAt H' a C fs := ⟨let ⟨d, e1, e2⟩ := h.ex; ⟨d, s _ _ e1, s _ _ e2⟩⟩
theorem EvIs.same (h : EvIs H a C) (s : Same H H') : EvIs H' a C := ⟨h.ex.imp (fun e => s _ _ e) fun ⟨fs, e⟩ => ⟨fs, e.same s⟩⟩
theorem EvAt.is (h : EvAt H a C fs) : EvIs H a C := ⟨.inr ⟨fs, h⟩⟩
end
/-! ### the errors of a law's list -/
def gts : List String := ["ValueError", "LookupError", "RuntimeError", "ArithmeticError", "KeyError", "IndexError", "TypeError", "ZeroDivisionError"]
/-- cs: the errors by their places; bs: the four grounds -/
structure ErT (K : PySem.W.Frag) (cs bs : List Addr) : Prop where
  nd : (cs ++ bs).Nodup
  lc : cs.length = 42
  lb : bs.length = 4
  tc : ∀ (i : Nat) (a : Addr), cs[i]? = some a → PySem.W.typeIn K (.ref a) = some (.type "type")
  mc : ∀ (i : Nat) (a : Addr), cs[i]? = some a → ∃ b, bs[gnd i]? = some b ∧ ∃ cd, PySem.W.clsIn K a = some cd ∧ cd.mro = .ref a :: .ref b :: eMr (gnd i)
  tb : ∀ (i : Nat) (b : Addr), bs[i]? = some b → PySem.W.typeIn K (.ref b) = some (.type "type")
  mb : ∀ (i : Nat) (b : Addr), bs[i]? = some b → ∃ cd, PySem.W.clsIn K b = some cd ∧ cd.mro = .ref b :: eMr i
theorem ertB_ok {K : PySem.W.Frag} {cs bs : List Addr} (h : ertB K cs bs = true) : ErT K cs bs := by
  obtain ⟨h1, h⟩ := Bool.and_eq_true_iff.mp h
  obtain ⟨h2, h⟩ := Bool.and_eq_true_iff.mp h
  obtain ⟨h3, h⟩ := Bool.and_eq_true_iff.mp h
  obtain ⟨h4, h5⟩ := Bool.and_eq_true_iff.mp h
  have inz : ∀ {l : List Addr} {i : Nat} {a : Addr}, l[i]? = some a → (a, i) ∈ l.zipIdx := fun {l i a} e => List.mk_mem_zipIdx_iff_getElem?.mpr e
  have g4 : ∀ (i : Nat) (a : Addr), cs[i]? = some a → _ := fun i a e => Bool.and_eq_true_iff.mp (List.all_eq_true.mp h4 (a, i) (inz e))
  have g5 : ∀ (i : Nat) (a : Addr), bs[i]? = some a → _ := fun i a e => Bool.and_eq_true_iff.mp (List.all_eq_true.mp h5 (a, i) (inz e))
  refine ⟨of_decide_eq_true h1, of_decide_eq_true h2, of_decide_eq_true h3, fun i a e => of_decide_eq_true (g4 i a e).1, fun i a e => ?_, fun i b e => of_decide_eq_true (g5 i b e).1, fun i b e => ?_⟩
  · have z := (g4 i a e).2
    dsimp only at z
    cases q : bs[gnd i]? with
    | none =>
      rw [q] at z
      cases z
    | some b =>
      rw [q] at z
      obtain ⟨cd, hc, hm⟩ := Option.map_eq_some_iff.mp (of_decide_eq_true z)
      exact ⟨b, rfl, cd, hc, hm⟩
  · obtain ⟨cd, hc, hm⟩ := Option.map_eq_some_iff.mp (of_decide_eq_true (g5 i b e).2)
    exact ⟨cd, hc, hm⟩
section
variable {K : PySem.W.Frag} {cs bs : List Addr}
theorem eMr_ref {i : Nat} {b : Addr} : (eMr i).contains (.ref b) = false := by
  match i with
  | 0 => rfl
  | 1 => rfl
  | 2 => rfl
  | _ + 3 => rfl
theorem kit_refs {a b : Addr} {cd cb : ClassData} (ha : PySem.W.clsIn K a = some cd) (hb : PySem.W.clsIn K b = some cb) (tb : PySem.W.typeIn K (.ref b) = some (.type "type")) (hm : cd.mro.isEmpty = false) (hc : a = b → cd.mro.contains (.ref b) = true) : PySem.W.kitOne K (.ref a) (.ref b) = some (cd.mro.contains (.ref b)) := by
  unfold PySem.W.kitOne
  by_cases h : a = b
  · rw [if_pos (beq_iff_eq.mpr (congrArg Value.ref h)), hc h]
  · rw [if_neg (fun z => h (Value.ref.inj (beq_iff_eq.mp z)))]
    show (if _ then _ else _) = _
    rw [if_pos (by rw [hb, tb]; rfl)]
    show PySem.W.mroIn K a (.ref b) = _
    unfold PySem.W.mroIn
    rw [ha, Option.bind_some, if_neg (by rw [hm]; decide)]
theorem kit_reft {a : Addr} {T : String} {cd : ClassData} (ha : PySem.W.clsIn K a = some cd) (hm : cd.mro.isEmpty = false) (ht : PySem.W.kitMeta T = true) : PySem.W.kitOne K (.ref a) (.type T) = some (cd.mro.contains (.type T)) := by
  unfold PySem.W.kitOne
  rw [if_neg (show ¬ ((Value.ref a == Value.type T) = true) from fun z => nomatch beq_iff_eq.mp z)]
  show (if _ then _ else _) = _
  rw [if_pos ht]
  show PySem.W.mroIn K a (.type T) = _
  unfold PySem.W.mroIn
  rw [ha, Option.bind_some, if_neg (by rw [hm]; decide)]
theorem beqR {a b : Addr} : (Value.ref b == Value.ref a) = decide (a = b) := by
  by_cases h : a = b
  · rw [decide_eq_true h, beq_iff_eq.mpr (congrArg Value.ref h.symm)]
  · rw [decide_eq_false h]
    exact beq_eq_false_iff_ne.mpr fun z => h (Value.ref.inj z).symm
theorem nd_at {l : List Addr} (nd : l.Nodup) {i j : Nat} {a b : Addr} (ha : l[i]? = some a) (hb : l[j]? = some b) : decide (a = b) = decide (i = j) := by
  by_cases h : i = j
  · subst h
    rw [ha] at hb
    rw [decide_eq_true rfl, decide_eq_true (Option.some.inj hb)]
  · rw [decide_eq_false h, decide_eq_false]
    intro e
    subst e
    exact h ((List.getElem?_inj (List.getElem?_eq_some_iff.mp ha).1 nd).mp (ha.trans hb.symm))
theorem ErT.ne (T : ErT K cs bs) {i j : Nat} {a b : Addr} (ha : cs[i]? = some a) (hb : bs[j]? = some b) : a ≠ b := fun e => (List.nodup_append.mp T.nd).2.2 a (List.mem_of_getElem? ha) b (List.mem_of_getElem? hb) e
theorem ErT.cc (T : ErT K cs bs) {i j : Nat} {a b : Addr} (ha : cs[i]? = some a) (hb : cs[j]? = some b) : PySem.W.kitOne K (.ref a) (.ref b) = some (decide (i = j)) := by
  obtain ⟨g, hg, cd, hc, hm⟩ := T.mc i a ha
  obtain ⟨_, _, cb, hcb, _⟩ := T.mc j b hb
  have e : cd.mro.contains (.ref b) = decide (i = j) := by
    rw [hm, List.contains_cons, List.contains_cons, eMr_ref, Bool.or_false, beqR, beqR, nd_at (List.nodup_append.mp T.nd).1 ha hb, decide_eq_false (p := g = b) (fun z => T.ne hb hg z.symm), Bool.or_false]
  rw [kit_refs hc hcb (T.tc j b hb) (by rw [hm]; rfl) (fun z => by rw [hm, z]; simp), e]
theorem ErT.cb (T : ErT K cs bs) {i j : Nat} {a b : Addr} (ha : cs[i]? = some a) (hb : bs[j]? = some b) : PySem.W.kitOne K (.ref a) (.ref b) = some (decide (gnd i = j)) := by
  obtain ⟨g, hg, cd, hc, hm⟩ := T.mc i a ha
  obtain ⟨cb, hcb, _⟩ := T.mb j b hb
  have e : cd.mro.contains (.ref b) = decide (gnd i = j) := by
    rw [hm, List.contains_cons, List.contains_cons, eMr_ref, Bool.or_false, beqR, beqR, nd_at (List.nodup_append.mp T.nd).2.1 hg hb, decide_eq_false (T.ne ha hb), Bool.false_or]
  rw [kit_refs hc hcb (T.tb j b hb) (by rw [hm]; rfl) (fun z => absurd z (T.ne ha hb)), e]
theorem gt_mt : ∀ t ∈ gts, PySem.W.kitMeta t = true := by decide +kernel
theorem gt_mr : ∀ j, j < 8 → ∀ i, i < 4 → (eMr i).contains (.type (gts[j]?.getD "")) = decide (i = j) := by decide +kernel
theorem gnd_lt (i : Nat) : gnd i < 4 := by unfold gnd; split <;> (try split) <;> (try split) <;> omega
theorem gt_at {j : Nat} {t : String} (h : gts[j]? = some t) {i : Nat} (hi : i < 4) : (eMr i).contains (.type t) = decide (i = j) := by
  have z := gt_mr j (List.getElem?_eq_some_iff.mp h).1 i hi
  rw [h] at z
  exact z
theorem ErT.ct (T : ErT K cs bs) {i j : Nat} {a : Addr} {t : String} (ha : cs[i]? = some a) (ht : gts[j]? = some t) : PySem.W.kitOne K (.ref a) (.type t) = some (decide (gnd i = j)) := by
  obtain ⟨g, hg, cd, hc, hm⟩ := T.mc i a ha
  have e : cd.mro.contains (.type t) = decide (gnd i = j) := by
    rw [hm, List.contains_cons, List.contains_cons, gt_at ht (gnd_lt i)]
    rfl
  rw [kit_reft hc (by rw [hm]; rfl) (gt_mt t (List.mem_of_getElem? ht)), e]
theorem ErT.bc (T : ErT K cs bs) {i j : Nat} {a b : Addr} (ha : bs[i]? = some a) (hb : cs[j]? = some b) : PySem.W.kitOne K (.ref a) (.ref b) = some false := by
  obtain ⟨cd, hc, hm⟩ := T.mb i a ha
  obtain ⟨_, _, cb, hcb, _⟩ := T.mc j b hb
  have e : cd.mro.contains (.ref b) = false := by
    rw [hm, List.contains_cons, eMr_ref, Bool.or_false, beqR, decide_eq_false (fun z => T.ne hb ha z.symm)]
  rw [kit_refs hc hcb (T.tc j b hb) (by rw [hm]; rfl) (fun z => absurd z.symm (T.ne hb ha)), e]
theorem ErT.bb (T : ErT K cs bs) {i j : Nat} {a b : Addr} (ha : bs[i]? = some a) (hb : bs[j]? = some b) : PySem.W.kitOne K (.ref a) (.ref b) = some (decide (i = j)) := by
  obtain ⟨cd, hc, hm⟩ := T.mb i a ha
  obtain ⟨cb, hcb, _⟩ := T.mb j b hb
  have e : cd.mro.contains (.ref b) = decide (i = j) := by
    rw [hm, List.contains_cons, eMr_ref, Bool.or_false, beqR, ← nd_at (List.nodup_append.mp T.nd).2.1 ha hb]
  rw [kit_refs hc hcb (T.tb j b hb) (by rw [hm]; rfl) (fun z => by rw [hm, z]; simp), e]
theorem ErT.bt (T : ErT K cs bs) {i j : Nat} {a : Addr} {t : String} (ha : bs[i]? = some a) (ht : gts[j]? = some t) : PySem.W.kitOne K (.ref a) (.type t) = some (decide (i = j)) := by
  obtain ⟨cd, hc, hm⟩ := T.mb i a ha
  have e : cd.mro.contains (.type t) = decide (i = j) := by
    rw [hm, List.contains_cons, gt_at ht (by rw [← T.lb]; exact (List.getElem?_eq_some_iff.mp ha).1)]
    rfl
  rw [kit_reft hc (by rw [hm]; rfl) (gt_mt t (List.mem_of_getElem? ht)), e]
end
/-- the fields of the error at place k, made of a and b -/
def erFs (k : Nat) (a b : V) : List (Str × V) :=
  if k < 29 ∨ k = 33 then [("value", a)] else if k < 32 ∨ k = 34 then [("position", a)] else if k = 32 then [("line", a)] else if k = 35 then [("rows", b), ("columns", a)] else if k < 38 then [("other", b), ("one", a)] else if k = 38 then [("move", b), ("value", a)] else if k = 39 then [("limit", b), ("what", a)] else []
/-- the error at place k of the law's list stands at e -/
structure ErAt (cs : List Addr) (H : Hp) (e : Addr) (k : Nat) (a b : V) : Prop where
  ex : ∃ C, cs[k]? = some C ∧ ((k < 40 ∧ EvAt H e C (erFs k a b)) ∨ (40 ≤ k ∧ H e = some (exo e C none)))
structure ErL (cs : List Addr) (H : Hp) (a b : V) (vs : List V) : Prop where
  at_ : ∀ (i : Nat) (v : V), vs[i]? = some v → ∃ e, v = .ref e ∧ ErAt cs H e i a b
section
variable {cs : List Addr} {H H' : Hp} {a b : V} {vs : List V} {e k l : Nat} {C : Addr} {xs ys : List V}
theorem ErAt.same (h : ErAt cs H e k a b) (s : Same H H') : ErAt cs H' e k a b := ⟨let ⟨C, h1, h2⟩ := h.ex; ⟨C, h1, h2.imp (fun z => ⟨z.1, z.2.same s⟩) fun z => ⟨z.1, s _ _ z.2⟩⟩⟩
theorem ErL.same (h : ErL cs H a b vs) (s : Same H H') : ErL cs H' a b vs := ⟨fun i v q => let ⟨e, h1, h2⟩ := h.at_ i v q; ⟨e, h1, h2.same s⟩⟩
theorem ErL.nil : ErL cs H a b [] := ⟨fun i v q => by simp at q⟩
theorem ErL.put (h : ErL cs H a b vs) (s : Same H H') (z : ErAt cs H' e vs.length a b) : ErL cs H' a b (vs ++ [.ref e]) := ⟨fun i v q => by
  rcases Nat.lt_or_ge i vs.length with hi | hi
  · rw [List.getElem?_append_left hi] at q
    obtain ⟨e, h1, h2⟩ := h.at_ i v q
    exact ⟨e, h1, h2.same s⟩
  · rw [List.getElem?_append_right hi] at q
    rcases Nat.eq_zero_or_pos (i - vs.length) with h0 | h0
    · rw [h0] at q
      cases q
      have ei : i = vs.length := by omega
      subst ei
      exact ⟨e, rfl, z⟩
    · rw [List.getElem?_eq_none (by show 1 ≤ i - vs.length; omega)] at q
      cases q⟩
theorem ErL.one (h : ErL cs H a b vs) (s : Same H H') (hk : vs.length = k) (hC : cs[k]? = some C) (hl : k < 40) (z : EvAt H' e C (erFs k a b)) : ErL cs H' a b (vs ++ [.ref e]) := h.put s ⟨C, by rw [hk]; exact hC, .inl ⟨by omega, by rw [hk]; exact z⟩⟩
theorem ErL.one0 (h : ErL cs H a b vs) (s : Same H H') (hk : vs.length = k) (hC : cs[k]? = some C) (hl : 40 ≤ k) (z : H' e = some (exo e C none)) : ErL cs H' a b (vs ++ [.ref e]) := h.put s ⟨C, by rw [hk]; exact hC, .inr ⟨by omega, z⟩⟩
theorem exo_lst {e C : Addr} {d : Option Addr} {xs : List V} : exo e C d ≠ .lst xs := fun z => by
  have z' : HO.ext _ = HO.lst xs := z
  cases z'
theorem exd_lst {e : Addr} {fs : List (Str × V)} {xs : List V} : exd e fs ≠ .lst xs := fun z => by
  have z' : HO.ext _ = HO.lst xs := z
  cases z'
theorem EvAt.setl {fs : List (Str × V)} (h : EvAt H e C fs) (hl : H l = some (.lst xs)) : EvAt (upd H l (.lst ys)) e C fs := ⟨let ⟨d, h1, h2⟩ := h.ex; ⟨d, by rw [upd_ne (at_ne hl h1 (fun z => exo_lst z.symm))]; exact h1, by rw [upd_ne (at_ne hl h2 (fun z => exd_lst z.symm))]; exact h2⟩⟩
theorem ErAt.setl (h : ErAt cs H e k a b) (hl : H l = some (.lst xs)) : ErAt cs (upd H l (.lst ys)) e k a b := ⟨let ⟨C, h1, h2⟩ := h.ex; ⟨C, h1, h2.imp (fun z => ⟨z.1, z.2.setl hl⟩) fun z => ⟨z.1, by rw [upd_ne (at_ne hl z.2 (fun z => exo_lst z.symm))]; exact z.2⟩⟩⟩
theorem ErL.setl (h : ErL cs H a b vs) (hl : H l = some (.lst xs)) : ErL cs (upd H l (.lst ys)) a b vs := ⟨fun i v q => let ⟨e, h1, h2⟩ := h.at_ i v q; ⟨e, h1, h2.setl hl⟩⟩
theorem same_setl {G : Hp} {o : HO} (s : Same G H) (hl : G l = none) : Same G (upd H l o) := fun c u q => by
  rw [upd_ne (ne_of_none q hl)]
  exact s c u q
end
section
variable {cs : List Addr} {H G G0 : Hp} {a b : V} {vs xs ys : List V} {l : Nat} {o : HO}
theorem ErL.setG (h : ErL cs H a b vs) (hl : H l = some (.lst xs)) (e : upd H l (.lst ys) = G) : ErL cs G a b vs := by
  rw [← e]
  exact h.setl hl
theorem same_setG (s : Same G0 H) (hl : G0 l = none) (e : upd H l o = G) : Same G0 G := by
  rw [← e]
  exact same_setl s hl
theorem at_setG (e : upd H l o = G) : G l = some o := by
  rw [← e]
  exact upd_same
end
/-- a part of the law's list: the errors at the places from n on -/
structure ErK (cs : List Addr) (H : Hp) (a b : V) (n : Nat) (zs : List V) : Prop where
  at_ : ∀ (i : Nat) (v : V), zs[i]? = some v → ∃ e, v = .ref e ∧ ErAt cs H e (n + i) a b
section
variable {cs : List Addr} {H H' G : Hp} {a b : V} {xs ys zs : List V} {e k l n : Nat} {C : Addr}
theorem ErK.same (h : ErK cs H a b n zs) (s : Same H H') : ErK cs H' a b n zs := ⟨fun i v q => let ⟨e, h1, h2⟩ := h.at_ i v q; ⟨e, h1, h2.same s⟩⟩
theorem ErK.nil : ErK cs H a b n [] := ⟨fun i v q => by simp at q⟩
theorem ErK.put (h : ErK cs H a b n zs) (s : Same H H') (z : ErAt cs H' e k a b) (hk : n + zs.length = k) (hy : zs ++ [.ref e] = ys) : ErK cs H' a b n ys := ⟨fun i v q => by
  subst hy
  rcases Nat.lt_or_ge i zs.length with hi | hi
  · rw [List.getElem?_append_left hi] at q
    obtain ⟨e, h1, h2⟩ := h.at_ i v q
    exact ⟨e, h1, h2.same s⟩
  · rw [List.getElem?_append_right hi] at q
    rcases Nat.eq_zero_or_pos (i - zs.length) with h0 | h0
    · rw [h0] at q
      cases q
      have ei : n + i = k := by omega
      rw [ei]
      exact ⟨e, rfl, z⟩
    · rw [List.getElem?_eq_none (by show 1 ≤ i - zs.length; omega)] at q
      cases q⟩
theorem ErAt.mk1 {fs : List (Str × V)} (z : EvAt H e C fs) (hC : cs[k]? = some C) (hl : Nat.blt k 40 = true) (hf : erFs k a b = fs) : ErAt cs H e k a b := ⟨C, hC, .inl ⟨by simpa using hl, by rw [hf]; exact z⟩⟩
theorem ErAt.mk0 (z : H e = some (exo e C none)) (hC : cs[k]? = some C) (hl : Nat.ble 40 k = true) : ErAt cs H e k a b := ⟨C, hC, .inr ⟨Nat.le_of_ble_eq_true hl, z⟩⟩
theorem ErL.ext (h : ErL cs H a b xs) (z : ErK cs H a b n zs) (hn : xs.length = n) (hl : H l = some (.lst xs)) (hG : upd H l (.lst (xs ++ zs)) = G) : ErL cs G a b (xs ++ zs) := by
  rw [← hG]
  refine ErL.setl ⟨fun i v q => ?_⟩ hl
  rcases Nat.lt_or_ge i xs.length with hi | hi
  · rw [List.getElem?_append_left hi] at q
    exact h.at_ i v q
  · rw [List.getElem?_append_right hi] at q
    obtain ⟨e, h1, h2⟩ := z.at_ _ _ q
    refine ⟨e, h1, ?_⟩
    rw [show n + (i - xs.length) = i from by omega] at h2
    exact h2
theorem ErL.of0 (z : ErK cs H a b 0 zs) : ErL cs H a b zs := ⟨fun i v q => by
  obtain ⟨e, h1, h2⟩ := z.at_ i v q
  rw [Nat.zero_add] at h2
  exact ⟨e, h1, h2⟩⟩
end
/-- error classes of Python that are named -/
structure BltE2 (mg : Str → Option Value) : Prop where
  KeyError : mg "KeyError" = none
  TypeError : mg "TypeError" = none
  ZeroDivisionError : mg "ZeroDivisionError" = none
theorem bt_KeyError : bootBuiltins "KeyError" = some (.type "KeyError") := by decide +kernel
theorem bt_TypeError : bootBuiltins "TypeError" = some (.type "TypeError") := by decide +kernel
theorem bt_ZeroDivisionError : bootBuiltins "ZeroDivisionError" = some (.type "ZeroDivisionError") := by decide +kernel
end Mv
set_option Elab.async false
set_option maxRecDepth 100000
set_option maxHeartbeats 4000000
namespace T
open PySem L2 Mv
abbrev s_eInvalidNumber : Stmt := inClass (top 2) 0
theorem sc_eInvalidNumber : FnScope ["self", "value"] ["self", "value"] (defScope s_eInvalidNumber) := ⟨rfl, rfl, rfl, by decide +kernel, rfl, by decide +kernel, by decide +kernel⟩
theorem ok_eInvalidNumber {P : Program} {w : World} {K : PySem.W.Frag} {mg : Str → Option Value} {base : Heap} {f : Addr} {fd : FuncData} (F : Df K "__init__" "InvalidNumber.__init__" s_eInvalidNumber [] f fd) : FnOk P w K mg base CX0 1 f fd ["self", "value"] (sp_exi1 K "value") := by
  exact ok_exi1 F sc_eInvalidNumber rfl (.inl rfl) (.inl rfl) rfl rfl fun _ => rfl
abbrev s_eInvalidPhase : Stmt := inClass (top 4) 0
theorem sc_eInvalidPhase : FnScope ["self", "value"] ["self", "value"] (defScope s_eInvalidPhase) := ⟨rfl, rfl, rfl, by decide +kernel, rfl, by decide +kernel, by decide +kernel⟩
theorem ok_eInvalidPhase {P : Program} {w : World} {K : PySem.W.Frag} {mg : Str → Option Value} {base : Heap} {f : Addr} {fd : FuncData} (F : Df K "__init__" "InvalidPhase.__init__" s_eInvalidPhase [] f fd) : FnOk P w K mg base CX0 1 f fd ["self", "value"] (sp_exi1 K "value") := by
  exact ok_exi1 F sc_eInvalidPhase rfl (.inl rfl) (.inl rfl) rfl rfl fun _ => rfl
abbrev s_eInvalidSign : Stmt := inClass (top 5) 0
theorem sc_eInvalidSign : FnScope ["self", "value"] ["self", "value"] (defScope s_eInvalidSign) := ⟨rfl, rfl, rfl, by decide +kernel, rfl, by decide +kernel, by decide +kernel⟩
theorem ok_eInvalidSign {P : Program} {w : World} {K : PySem.W.Frag} {mg : Str → Option Value} {base : Heap} {f : Addr} {fd : FuncData} (F : Df K "__init__" "InvalidSign.__init__" s_eInvalidSign [] f fd) : FnOk P w K mg base CX0 1 f fd ["self", "value"] (sp_exi1 K "value") := by
  exact ok_exi1 F sc_eInvalidSign rfl (.inl rfl) (.inl rfl) rfl rfl fun _ => rfl
abbrev s_eInvalidPair : Stmt := inClass (top 6) 0
theorem sc_eInvalidPair : FnScope ["self", "value"] ["self", "value"] (defScope s_eInvalidPair) := ⟨rfl, rfl, rfl, by decide +kernel, rfl, by decide +kernel, by decide +kernel⟩
theorem ok_eInvalidPair {P : Program} {w : World} {K : PySem.W.Frag} {mg : Str → Option Value} {base : Heap} {f : Addr} {fd : FuncData} (F : Df K "__init__" "InvalidPair.__init__" s_eInvalidPair [] f fd) : FnOk P w K mg base CX0 1 f fd ["self", "value"] (sp_exi1 K "value") := by
  exact ok_exi1 F sc_eInvalidPair rfl (.inl rfl) (.inl rfl) rfl rfl fun _ => rfl
abbrev s_eInvalidLength : Stmt := inClass (top 7) 0
theorem sc_eInvalidLength : FnScope ["self", "value"] ["self", "value"] (defScope s_eInvalidLength) := ⟨rfl, rfl, rfl, by decide +kernel, rfl, by decide +kernel, by decide +kernel⟩
theorem ok_eInvalidLength {P : Program} {w : World} {K : PySem.W.Frag} {mg : Str → Option Value} {base : Heap} {f : Addr} {fd : FuncData} (F : Df K "__init__" "InvalidLength.__init__" s_eInvalidLength [] f fd) : FnOk P w K mg base CX0 1 f fd ["self", "value"] (sp_exi1 K "value") := by
  exact ok_exi1 F sc_eInvalidLength rfl (.inl rfl) (.inl rfl) rfl rfl fun _ => rfl
abbrev s_eInvalidClosed : Stmt := inClass (top 8) 0
theorem sc_eInvalidClosed : FnScope ["self", "value"] ["self", "value"] (defScope s_eInvalidClosed) := ⟨rfl, rfl, rfl, by decide +kernel, rfl, by decide +kernel, by decide +kernel⟩
theorem ok_eInvalidClosed {P : Program} {w : World} {K : PySem.W.Frag} {mg : Str → Option Value} {base : Heap} {f : Addr} {fd : FuncData} (F : Df K "__init__" "InvalidClosed.__init__" s_eInvalidClosed [] f fd) : FnOk P w K mg base CX0 1 f fd ["self", "value"] (sp_exi1 K "value") := by
  exact ok_exi1 F sc_eInvalidClosed rfl (.inl rfl) (.inl rfl) rfl rfl fun _ => rfl
abbrev s_eInvalidAxis : Stmt := inClass (top 9) 0
theorem sc_eInvalidAxis : FnScope ["self", "value"] ["self", "value"] (defScope s_eInvalidAxis) := ⟨rfl, rfl, rfl, by decide +kernel, rfl, by decide +kernel, by decide +kernel⟩
theorem ok_eInvalidAxis {P : Program} {w : World} {K : PySem.W.Frag} {mg : Str → Option Value} {base : Heap} {f : Addr} {fd : FuncData} (F : Df K "__init__" "InvalidAxis.__init__" s_eInvalidAxis [] f fd) : FnOk P w K mg base CX0 1 f fd ["self", "value"] (sp_exi1 K "value") := by
  exact ok_exi1 F sc_eInvalidAxis rfl (.inl rfl) (.inl rfl) rfl rfl fun _ => rfl
abbrev s_eInvalidName : Stmt := inClass (top 10) 0
theorem sc_eInvalidName : FnScope ["self", "value"] ["self", "value"] (defScope s_eInvalidName) := ⟨rfl, rfl, rfl, by decide +kernel, rfl, by decide +kernel, by decide +kernel⟩
theorem ok_eInvalidName {P : Program} {w : World} {K : PySem.W.Frag} {mg : Str → Option Value} {base : Heap} {f : Addr} {fd : FuncData} (F : Df K "__init__" "InvalidName.__init__" s_eInvalidName [] f fd) : FnOk P w K mg base CX0 1 f fd ["self", "value"] (sp_exi1 K "value") := by
  exact ok_exi1 F sc_eInvalidName rfl (.inl rfl) (.inl rfl) rfl rfl fun _ => rfl
abbrev s_eInvalidPlace : Stmt := inClass (top 11) 0
theorem sc_eInvalidPlace : FnScope ["self", "value"] ["self", "value"] (defScope s_eInvalidPlace) := ⟨rfl, rfl, rfl, by decide +kernel, rfl, by decide +kernel, by decide +kernel⟩
theorem ok_eInvalidPlace {P : Program} {w : World} {K : PySem.W.Frag} {mg : Str → Option Value} {base : Heap} {f : Addr} {fd : FuncData} (F : Df K "__init__" "InvalidPlace.__init__" s_eInvalidPlace [] f fd) : FnOk P w K mg base CX0 1 f fd ["self", "value"] (sp_exi1 K "value") := by
  exact ok_exi1 F sc_eInvalidPlace rfl (.inl rfl) (.inl rfl) rfl rfl fun _ => rfl
abbrev s_eInvalidKind : Stmt := inClass (top 12) 0
theorem sc_eInvalidKind : FnScope ["self", "value"] ["self", "value"] (defScope s_eInvalidKind) := ⟨rfl, rfl, rfl, by decide +kernel, rfl, by decide +kernel, by decide +kernel⟩
theorem ok_eInvalidKind {P : Program} {w : World} {K : PySem.W.Frag} {mg : Str → Option Value} {base : Heap} {f : Addr} {fd : FuncData} (F : Df K "__init__" "InvalidKind.__init__" s_eInvalidKind [] f fd) : FnOk P w K mg base CX0 1 f fd ["self", "value"] (sp_exi1 K "value") := by
  exact ok_exi1 F sc_eInvalidKind rfl (.inl rfl) (.inl rfl) rfl rfl fun _ => rfl
abbrev s_eInvalidDirection : Stmt := inClass (top 13) 0
theorem sc_eInvalidDirection : FnScope ["self", "value"] ["self", "value"] (defScope s_eInvalidDirection) := ⟨rfl, rfl, rfl, by decide +kernel, rfl, by decide +kernel, by decide +kernel⟩
theorem ok_eInvalidDirection {P : Program} {w : World} {K : PySem.W.Frag} {mg : Str → Option Value} {base : Heap} {f : Addr} {fd : FuncData} (F : Df K "__init__" "InvalidDirection.__init__" s_eInvalidDirection [] f fd) : FnOk P w K mg base CX0 1 f fd ["self", "value"] (sp_exi1 K "value") := by
  exact ok_exi1 F sc_eInvalidDirection rfl (.inl rfl) (.inl rfl) rfl rfl fun _ => rfl
abbrev s_eInvalidMove : Stmt := inClass (top 14) 0
theorem sc_eInvalidMove : FnScope ["self", "value"] ["self", "value"] (defScope s_eInvalidMove) := ⟨rfl, rfl, rfl, by decide +kernel, rfl, by decide +kernel, by decide +kernel⟩
theorem ok_eInvalidMove {P : Program} {w : World} {K : PySem.W.Frag} {mg : Str → Option Value} {base : Heap} {f : Addr} {fd : FuncData} (F : Df K "__init__" "InvalidMove.__init__" s_eInvalidMove [] f fd) : FnOk P w K mg base CX0 1 f fd ["self", "value"] (sp_exi1 K "value") := by
  exact ok_exi1 F sc_eInvalidMove rfl (.inl rfl) (.inl rfl) rfl rfl fun _ => rfl
abbrev s_eInvalidEdges : Stmt := inClass (top 15) 0
theorem sc_eInvalidEdges : FnScope ["self", "value"] ["self", "value"] (defScope s_eInvalidEdges) := ⟨rfl, rfl, rfl, by decide +kernel, rfl, by decide +kernel, by decide +kernel⟩
theorem ok_eInvalidEdges {P : Program} {w : World} {K : PySem.W.Frag} {mg : Str → Option Value} {base : Heap} {f : Addr} {fd : FuncData} (F : Df K "__init__" "InvalidEdges.__init__" s_eInvalidEdges [] f fd) : FnOk P w K mg base CX0 1 f fd ["self", "value"] (sp_exi1 K "value") := by
  exact ok_exi1 F sc_eInvalidEdges rfl (.inl rfl) (.inl rfl) rfl rfl fun _ => rfl
abbrev s_eInvalidBegins : Stmt := inClass (top 17) 0
theorem sc_eInvalidBegins : FnScope ["self", "value"] ["self", "value"] (defScope s_eInvalidBegins) := ⟨rfl, rfl, rfl, by decide +kernel, rfl, by decide +kernel, by decide +kernel⟩
theorem ok_eInvalidBegins {P : Program} {w : World} {K : PySem.W.Frag} {mg : Str → Option Value} {base : Heap} {f : Addr} {fd : FuncData} (F : Df K "__init__" "InvalidBegins.__init__" s_eInvalidBegins [] f fd) : FnOk P w K mg base CX0 1 f fd ["self", "value"] (sp_exi1 K "value") := by
  exact ok_exi1 F sc_eInvalidBegins rfl (.inl rfl) (.inl rfl) rfl rfl fun _ => rfl
abbrev s_eInvalidEntry : Stmt := inClass (top 18) 0
theorem sc_eInvalidEntry : FnScope ["self", "value"] ["self", "value"] (defScope s_eInvalidEntry) := ⟨rfl, rfl, rfl, by decide +kernel, rfl, by decide +kernel, by decide +kernel⟩
theorem ok_eInvalidEntry {P : Program} {w : World} {K : PySem.W.Frag} {mg : Str → Option Value} {base : Heap} {f : Addr} {fd : FuncData} (F : Df K "__init__" "InvalidEntry.__init__" s_eInvalidEntry [] f fd) : FnOk P w K mg base CX0 1 f fd ["self", "value"] (sp_exi1 K "value") := by
  exact ok_exi1 F sc_eInvalidEntry rfl (.inl rfl) (.inl rfl) rfl rfl fun _ => rfl
abbrev s_eInvalidReach : Stmt := inClass (top 19) 0
theorem sc_eInvalidReach : FnScope ["self", "value"] ["self", "value"] (defScope s_eInvalidReach) := ⟨rfl, rfl, rfl, by decide +kernel, rfl, by decide +kernel, by decide +kernel⟩
theorem ok_eInvalidReach {P : Program} {w : World} {K : PySem.W.Frag} {mg : Str → Option Value} {base : Heap} {f : Addr} {fd : FuncData} (F : Df K "__init__" "InvalidReach.__init__" s_eInvalidReach [] f fd) : FnOk P w K mg base CX0 1 f fd ["self", "value"] (sp_exi1 K "value") := by
  exact ok_exi1 F sc_eInvalidReach rfl (.inl rfl) (.inl rfl) rfl rfl fun _ => rfl
abbrev s_eInvalidDistance : Stmt := inClass (top 20) 0
theorem sc_eInvalidDistance : FnScope ["self", "value"] ["self", "value"] (defScope s_eInvalidDistance) := ⟨rfl, rfl, rfl, by decide +kernel, rfl, by decide +kernel, by decide +kernel⟩
theorem ok_eInvalidDistance {P : Program} {w : World} {K : PySem.W.Frag} {mg : Str → Option Value} {base : Heap} {f : Addr} {fd : FuncData} (F : Df K "__init__" "InvalidDistance.__init__" s_eInvalidDistance [] f fd) : FnOk P w K mg base CX0 1 f fd ["self", "value"] (sp_exi1 K "value") := by
  exact ok_exi1 F sc_eInvalidDistance rfl (.inl rfl) (.inl rfl) rfl rfl fun _ => rfl
abbrev s_eInvalidLooks : Stmt := inClass (top 22) 0
theorem sc_eInvalidLooks : FnScope ["self", "value"] ["self", "value"] (defScope s_eInvalidLooks) := ⟨rfl, rfl, rfl, by decide +kernel, rfl, by decide +kernel, by decide +kernel⟩
theorem ok_eInvalidLooks {P : Program} {w : World} {K : PySem.W.Frag} {mg : Str → Option Value} {base : Heap} {f : Addr} {fd : FuncData} (F : Df K "__init__" "InvalidLooks.__init__" s_eInvalidLooks [] f fd) : FnOk P w K mg base CX0 1 f fd ["self", "value"] (sp_exi1 K "value") := by
  exact ok_exi1 F sc_eInvalidLooks rfl (.inl rfl) (.inl rfl) rfl rfl fun _ => rfl
abbrev s_eInvalidPlaces : Stmt := inClass (top 23) 0
theorem sc_eInvalidPlaces : FnScope ["self", "value"] ["self", "value"] (defScope s_eInvalidPlaces) := ⟨rfl, rfl, rfl, by decide +kernel, rfl, by decide +kernel, by decide +kernel⟩
theorem ok_eInvalidPlaces {P : Program} {w : World} {K : PySem.W.Frag} {mg : Str → Option Value} {base : Heap} {f : Addr} {fd : FuncData} (F : Df K "__init__" "InvalidPlaces.__init__" s_eInvalidPlaces [] f fd) : FnOk P w K mg base CX0 1 f fd ["self", "value"] (sp_exi1 K "value") := by
  exact ok_exi1 F sc_eInvalidPlaces rfl (.inl rfl) (.inl rfl) rfl rfl fun _ => rfl
abbrev s_eInvalidWord : Stmt := inClass (top 24) 0
theorem sc_eInvalidWord : FnScope ["self", "value"] ["self", "value"] (defScope s_eInvalidWord) := ⟨rfl, rfl, rfl, by decide +kernel, rfl, by decide +kernel, by decide +kernel⟩
theorem ok_eInvalidWord {P : Program} {w : World} {K : PySem.W.Frag} {mg : Str → Option Value} {base : Heap} {f : Addr} {fd : FuncData} (F : Df K "__init__" "InvalidWord.__init__" s_eInvalidWord [] f fd) : FnOk P w K mg base CX0 1 f fd ["self", "value"] (sp_exi1 K "value") := by
  exact ok_exi1 F sc_eInvalidWord rfl (.inl rfl) (.inl rfl) rfl rfl fun _ => rfl
abbrev s_eInvalidTarget : Stmt := inClass (top 25) 0
theorem sc_eInvalidTarget : FnScope ["self", "value"] ["self", "value"] (defScope s_eInvalidTarget) := ⟨rfl, rfl, rfl, by decide +kernel, rfl, by decide +kernel, by decide +kernel⟩
theorem ok_eInvalidTarget {P : Program} {w : World} {K : PySem.W.Frag} {mg : Str → Option Value} {base : Heap} {f : Addr} {fd : FuncData} (F : Df K "__init__" "InvalidTarget.__init__" s_eInvalidTarget [] f fd) : FnOk P w K mg base CX0 1 f fd ["self", "value"] (sp_exi1 K "value") := by
  exact ok_exi1 F sc_eInvalidTarget rfl (.inl rfl) (.inl rfl) rfl rfl fun _ => rfl
abbrev s_eInvalidState : Stmt := inClass (top 26) 0
theorem sc_eInvalidState : FnScope ["self", "value"] ["self", "value"] (defScope s_eInvalidState) := ⟨rfl, rfl, rfl, by decide +kernel, rfl, by decide +kernel, by decide +kernel⟩
theorem ok_eInvalidState {P : Program} {w : World} {K : PySem.W.Frag} {mg : Str → Option Value} {base : Heap} {f : Addr} {fd : FuncData} (F : Df K "__init__" "InvalidState.__init__" s_eInvalidState [] f fd) : FnOk P w K mg base CX0 1 f fd ["self", "value"] (sp_exi1 K "value") := by
  exact ok_exi1 F sc_eInvalidState rfl (.inl rfl) (.inl rfl) rfl rfl fun _ => rfl
abbrev s_eInvalidRule : Stmt := inClass (top 27) 0
theorem sc_eInvalidRule : FnScope ["self", "value"] ["self", "value"] (defScope s_eInvalidRule) := ⟨rfl, rfl, rfl, by decide +kernel, rfl, by decide +kernel, by decide +kernel⟩
theorem ok_eInvalidRule {P : Program} {w : World} {K : PySem.W.Frag} {mg : Str → Option Value} {base : Heap} {f : Addr} {fd : FuncData} (F : Df K "__init__" "InvalidRule.__init__" s_eInvalidRule [] f fd) : FnOk P w K mg base CX0 1 f fd ["self", "value"] (sp_exi1 K "value") := by
  exact ok_exi1 F sc_eInvalidRule rfl (.inl rfl) (.inl rfl) rfl rfl fun _ => rfl
abbrev s_eInvalidTable : Stmt := inClass (top 28) 0
theorem sc_eInvalidTable : FnScope ["self", "value"] ["self", "value"] (defScope s_eInvalidTable) := ⟨rfl, rfl, rfl, by decide +kernel, rfl, by decide +kernel, by decide +kernel⟩
theorem ok_eInvalidTable {P : Program} {w : World} {K : PySem.W.Frag} {mg : Str → Option Value} {base : Heap} {f : Addr} {fd : FuncData} (F : Df K "__init__" "InvalidTable.__init__" s_eInvalidTable [] f fd) : FnOk P w K mg base CX0 1 f fd ["self", "value"] (sp_exi1 K "value") := by
  exact ok_exi1 F sc_eInvalidTable rfl (.inl rfl) (.inl rfl) rfl rfl fun _ => rfl
abbrev s_eInvalidMap : Stmt := inClass (top 29) 0
theorem sc_eInvalidMap : FnScope ["self", "value"] ["self", "value"] (defScope s_eInvalidMap) := ⟨rfl, rfl, rfl, by decide +kernel, rfl, by decide +kernel, by decide +kernel⟩
theorem ok_eInvalidMap {P : Program} {w : World} {K : PySem.W.Frag} {mg : Str → Option Value} {base : Heap} {f : Addr} {fd : FuncData} (F : Df K "__init__" "InvalidMap.__init__" s_eInvalidMap [] f fd) : FnOk P w K mg base CX0 1 f fd ["self", "value"] (sp_exi1 K "value") := by
  exact ok_exi1 F sc_eInvalidMap rfl (.inl rfl) (.inl rfl) rfl rfl fun _ => rfl
abbrev s_eInvalidPlan : Stmt := inClass (top 30) 0
theorem sc_eInvalidPlan : FnScope ["self", "value"] ["self", "value"] (defScope s_eInvalidPlan) := ⟨rfl, rfl, rfl, by decide +kernel, rfl, by decide +kernel, by decide +kernel⟩
theorem ok_eInvalidPlan {P : Program} {w : World} {K : PySem.W.Frag} {mg : Str → Option Value} {base : Heap} {f : Addr} {fd : FuncData} (F : Df K "__init__" "InvalidPlan.__init__" s_eInvalidPlan [] f fd) : FnOk P w K mg base CX0 1 f fd ["self", "value"] (sp_exi1 K "value") := by
  exact ok_exi1 F sc_eInvalidPlan rfl (.inl rfl) (.inl rfl) rfl rfl fun _ => rfl
abbrev s_eInvalidGauge : Stmt := inClass (top 31) 0
theorem sc_eInvalidGauge : FnScope ["self", "value"] ["self", "value"] (defScope s_eInvalidGauge) := ⟨rfl, rfl, rfl, by decide +kernel, rfl, by decide +kernel, by decide +kernel⟩
theorem ok_eInvalidGauge {P : Program} {w : World} {K : PySem.W.Frag} {mg : Str → Option Value} {base : Heap} {f : Addr} {fd : FuncData} (F : Df K "__init__" "InvalidGauge.__init__" s_eInvalidGauge [] f fd) : FnOk P w K mg base CX0 1 f fd ["self", "value"] (sp_exi1 K "value") := by
  exact ok_exi1 F sc_eInvalidGauge rfl (.inl rfl) (.inl rfl) rfl rfl fun _ => rfl
abbrev s_eInvalidClaim : Stmt := inClass (top 33) 0
theorem sc_eInvalidClaim : FnScope ["self", "value"] ["self", "value"] (defScope s_eInvalidClaim) := ⟨rfl, rfl, rfl, by decide +kernel, rfl, by decide +kernel, by decide +kernel⟩
theorem ok_eInvalidClaim {P : Program} {w : World} {K : PySem.W.Frag} {mg : Str → Option Value} {base : Heap} {f : Addr} {fd : FuncData} (F : Df K "__init__" "InvalidClaim.__init__" s_eInvalidClaim [] f fd) : FnOk P w K mg base CX0 1 f fd ["self", "value"] (sp_exi1 K "value") := by
  exact ok_exi1 F sc_eInvalidClaim rfl (.inl rfl) (.inl rfl) rfl rfl fun _ => rfl
abbrev s_eInvalidCommand : Stmt := inClass (top 34) 0
theorem sc_eInvalidCommand : FnScope ["self", "value"] ["self", "value"] (defScope s_eInvalidCommand) := ⟨rfl, rfl, rfl, by decide +kernel, rfl, by decide +kernel, by decide +kernel⟩
theorem ok_eInvalidCommand {P : Program} {w : World} {K : PySem.W.Frag} {mg : Str → Option Value} {base : Heap} {f : Addr} {fd : FuncData} (F : Df K "__init__" "InvalidCommand.__init__" s_eInvalidCommand [] f fd) : FnOk P w K mg base CX0 1 f fd ["self", "value"] (sp_exi1 K "value") := by
  exact ok_exi1 F sc_eInvalidCommand rfl (.inl rfl) (.inl rfl) rfl rfl fun _ => rfl
abbrev s_eInvalidRounds : Stmt := inClass (top 3) 0
theorem sc_eInvalidRounds : FnScope ["self", "position"] ["self", "position"] (defScope s_eInvalidRounds) := ⟨rfl, rfl, rfl, by decide +kernel, rfl, by decide +kernel, by decide +kernel⟩
theorem ok_eInvalidRounds {P : Program} {w : World} {K : PySem.W.Frag} {mg : Str → Option Value} {base : Heap} {f : Addr} {fd : FuncData} (F : Df K "__init__" "InvalidRounds.__init__" s_eInvalidRounds [] f fd) : FnOk P w K mg base CX0 1 f fd ["self", "position"] (sp_exi1 K "position") := by
  exact ok_exi1 F sc_eInvalidRounds rfl (.inl rfl) (.inl rfl) rfl rfl fun _ => rfl
abbrev s_eInvalidStates : Stmt := inClass (top 16) 0
theorem sc_eInvalidStates : FnScope ["self", "position"] ["self", "position"] (defScope s_eInvalidStates) := ⟨rfl, rfl, rfl, by decide +kernel, rfl, by decide +kernel, by decide +kernel⟩
theorem ok_eInvalidStates {P : Program} {w : World} {K : PySem.W.Frag} {mg : Str → Option Value} {base : Heap} {f : Addr} {fd : FuncData} (F : Df K "__init__" "InvalidStates.__init__" s_eInvalidStates [] f fd) : FnOk P w K mg base CX0 1 f fd ["self", "position"] (sp_exi1 K "position") := by
  exact ok_exi1 F sc_eInvalidStates rfl (.inl rfl) (.inl rfl) rfl rfl fun _ => rfl
abbrev s_eInvalidMoves : Stmt := inClass (top 21) 0
theorem sc_eInvalidMoves : FnScope ["self", "position"] ["self", "position"] (defScope s_eInvalidMoves) := ⟨rfl, rfl, rfl, by decide +kernel, rfl, by decide +kernel, by decide +kernel⟩
theorem ok_eInvalidMoves {P : Program} {w : World} {K : PySem.W.Frag} {mg : Str → Option Value} {base : Heap} {f : Addr} {fd : FuncData} (F : Df K "__init__" "InvalidMoves.__init__" s_eInvalidMoves [] f fd) : FnOk P w K mg base CX0 1 f fd ["self", "position"] (sp_exi1 K "position") := by
  exact ok_exi1 F sc_eInvalidMoves rfl (.inl rfl) (.inl rfl) rfl rfl fun _ => rfl
abbrev s_eInvalidText : Stmt := inClass (top 32) 0
theorem sc_eInvalidText : FnScope ["self", "line"] ["self", "line"] (defScope s_eInvalidText) := ⟨rfl, rfl, rfl, by decide +kernel, rfl, by decide +kernel, by decide +kernel⟩
theorem ok_eInvalidText {P : Program} {w : World} {K : PySem.W.Frag} {mg : Str → Option Value} {base : Heap} {f : Addr} {fd : FuncData} (F : Df K "__init__" "InvalidText.__init__" s_eInvalidText [] f fd) : FnOk P w K mg base CX0 1 f fd ["self", "line"] (sp_exi1 K "line") := by
  exact ok_exi1 F sc_eInvalidText rfl (.inl rfl) (.inl rfl) rfl rfl fun _ => rfl
abbrev s_eUnknownWord : Stmt := inClass (top 36) 0
theorem sc_eUnknownWord : FnScope ["self", "value"] ["self", "value"] (defScope s_eUnknownWord) := ⟨rfl, rfl, rfl, by decide +kernel, rfl, by decide +kernel, by decide +kernel⟩
theorem ok_eUnknownWord {P : Program} {w : World} {K : PySem.W.Frag} {mg : Str → Option Value} {base : Heap} {f : Addr} {fd : FuncData} (F : Df K "__init__" "UnknownWord.__init__" s_eUnknownWord [] f fd) : FnOk P w K mg base CX0 1 f fd ["self", "value"] (sp_exi1 K "value") := by
  exact ok_exi1 F sc_eUnknownWord rfl (.inl rfl) (.inl rfl) rfl rfl fun _ => rfl
abbrev s_eCommandFailed : Stmt := inClass (top 44) 0
theorem sc_eCommandFailed : FnScope ["self", "position"] ["self", "position"] (defScope s_eCommandFailed) := ⟨rfl, rfl, rfl, by decide +kernel, rfl, by decide +kernel, by decide +kernel⟩
theorem ok_eCommandFailed {P : Program} {w : World} {K : PySem.W.Frag} {mg : Str → Option Value} {base : Heap} {f : Addr} {fd : FuncData} (F : Df K "__init__" "CommandFailed.__init__" s_eCommandFailed [] f fd) : FnOk P w K mg base CX0 1 f fd ["self", "position"] (sp_exi1 K "position") := by
  exact ok_exi1 F sc_eCommandFailed rfl (.inl rfl) (.inl rfl) rfl rfl fun _ => rfl
abbrev s_eNotBalanced : Stmt := inClass (top 39) 0
theorem sc_eNotBalanced : FnScope ["self", "columns", "rows"] ["self", "columns", "rows"] (defScope s_eNotBalanced) := ⟨rfl, rfl, rfl, by decide +kernel, rfl, by decide +kernel, by decide +kernel⟩
theorem ok_eNotBalanced {P : Program} {w : World} {K : PySem.W.Frag} {mg : Str → Option Value} {base : Heap} {f : Addr} {fd : FuncData} (F : Df K "__init__" "NotBalanced.__init__" s_eNotBalanced [] f fd) : FnOk P w K mg base CX0 1 f fd ["self", "columns", "rows"] (sp_exi2 K "columns" "rows") := by
  exact ok_exi2 F sc_eNotBalanced rfl (.inl rfl) (.inl rfl) (.inl rfl) rfl rfl rfl rfl (fun _ => rfl) fun _ => rfl
abbrev s_eOtherPlan : Stmt := inClass (top 40) 0
theorem sc_eOtherPlan : FnScope ["self", "one", "other"] ["self", "one", "other"] (defScope s_eOtherPlan) := ⟨rfl, rfl, rfl, by decide +kernel, rfl, by decide +kernel, by decide +kernel⟩
theorem ok_eOtherPlan {P : Program} {w : World} {K : PySem.W.Frag} {mg : Str → Option Value} {base : Heap} {f : Addr} {fd : FuncData} (F : Df K "__init__" "OtherPlan.__init__" s_eOtherPlan [] f fd) : FnOk P w K mg base CX0 1 f fd ["self", "one", "other"] (sp_exi2 K "one" "other") := by
  exact ok_exi2 F sc_eOtherPlan rfl (.inl rfl) (.inl rfl) (.inl rfl) rfl rfl rfl rfl (fun _ => rfl) fun _ => rfl
abbrev s_eOtherMap : Stmt := inClass (top 41) 0
theorem sc_eOtherMap : FnScope ["self", "one", "other"] ["self", "one", "other"] (defScope s_eOtherMap) := ⟨rfl, rfl, rfl, by decide +kernel, rfl, by decide +kernel, by decide +kernel⟩
theorem ok_eOtherMap {P : Program} {w : World} {K : PySem.W.Frag} {mg : Str → Option Value} {base : Heap} {f : Addr} {fd : FuncData} (F : Df K "__init__" "OtherMap.__init__" s_eOtherMap [] f fd) : FnOk P w K mg base CX0 1 f fd ["self", "one", "other"] (sp_exi2 K "one" "other") := by
  exact ok_exi2 F sc_eOtherMap rfl (.inl rfl) (.inl rfl) (.inl rfl) rfl rfl rfl rfl (fun _ => rfl) fun _ => rfl
abbrev s_eNoNeighbour : Stmt := inClass (top 42) 0
theorem sc_eNoNeighbour : FnScope ["self", "value", "move"] ["self", "value", "move"] (defScope s_eNoNeighbour) := ⟨rfl, rfl, rfl, by decide +kernel, rfl, by decide +kernel, by decide +kernel⟩
theorem ok_eNoNeighbour {P : Program} {w : World} {K : PySem.W.Frag} {mg : Str → Option Value} {base : Heap} {f : Addr} {fd : FuncData} (F : Df K "__init__" "NoNeighbour.__init__" s_eNoNeighbour [] f fd) : FnOk P w K mg base CX0 1 f fd ["self", "value", "move"] (sp_exi2 K "value" "move") := by
  exact ok_exi2 F sc_eNoNeighbour rfl (.inl rfl) (.inl rfl) (.inl rfl) rfl rfl rfl rfl (fun _ => rfl) fun _ => rfl
abbrev s_eTooMany : Stmt := inClass (top 46) 0
theorem sc_eTooMany : FnScope ["self", "what", "limit"] ["self", "what", "limit"] (defScope s_eTooMany) := ⟨rfl, rfl, rfl, by decide +kernel, rfl, by decide +kernel, by decide +kernel⟩
theorem ok_eTooMany {P : Program} {w : World} {K : PySem.W.Frag} {mg : Str → Option Value} {base : Heap} {f : Addr} {fd : FuncData} (F : Df K "__init__" "TooMany.__init__" s_eTooMany [] f fd) : FnOk P w K mg base CX0 1 f fd ["self", "what", "limit"] (sp_exi2 K "what" "limit") := by
  exact ok_exi2 F sc_eTooMany rfl (.inl rfl) (.inl rfl) (.inl rfl) rfl rfl rfl rfl (fun _ => rfl) fun _ => rfl
section
variable {P : Program} {w : World} {K : PySem.W.Frag} {mg : Str → Option Value} {base : Heap} {xInvalidNumber xInvalidPhase xInvalidSign xInvalidPair xInvalidLength xInvalidClosed xInvalidAxis xInvalidName xInvalidPlace xInvalidKind xInvalidDirection xInvalidMove xInvalidEdges xInvalidBegins xInvalidEntry xInvalidReach xInvalidDistance xInvalidLooks xInvalidPlaces xInvalidWord xInvalidTarget xInvalidState xInvalidRule xInvalidTable xInvalidMap xInvalidPlan xInvalidGauge xInvalidClaim xInvalidCommand xInvalidRounds xInvalidStates xInvalidMoves xInvalidText xUnknownWord xCommandFailed xNotBalanced xOtherPlan xOtherMap xNoNeighbour xTooMany xDividedByZero xNothingToUndo xCellError xMissingError xStateError xLimitError : Addr}
/-- the names of an error's fields -/
def erNm (k : Nat) : List Str := (erFs k .non .non).map (·.1)
theorem erNm_eq (k : Nat) (a b : V) : erNm k = (erFs k a b).map (·.1) := by
  unfold erNm erFs
  repeat' split
  all_goals rfl
structure ErF (K : PySem.W.Frag) (cs : List Addr) : Prop where
  at_ : ∀ (k : Nat) (C : Addr), cs[k]? = some C → L2.XfC K C ∧ L2.ExcC K C ∧ ∀ n ∈ erNm k, PySem.W.findIn K (.ref C) n = some none
theorem erf_of (eInvalidNumber : Ev1 P w K mg base "InvalidNumber" xInvalidNumber "value") (eInvalidPhase : Ev1 P w K mg base "InvalidPhase" xInvalidPhase "value") (eInvalidSign : Ev1 P w K mg base "InvalidSign" xInvalidSign "value") (eInvalidPair : Ev1 P w K mg base "InvalidPair" xInvalidPair "value") (eInvalidLength : Ev1 P w K mg base "InvalidLength" xInvalidLength "value") (eInvalidClosed : Ev1 P w K mg base "InvalidClosed" xInvalidClosed "value") (eInvalidAxis : Ev1 P w K mg base "InvalidAxis" xInvalidAxis "value") (eInvalidName : Ev1 P w K mg base "InvalidName" xInvalidName "value") (eInvalidPlace : Ev1 P w K mg base "InvalidPlace" xInvalidPlace "value") (eInvalidKind : Ev1 P w K mg base "InvalidKind" xInvalidKind "value") (eInvalidDirection : Ev1 P w K mg base "InvalidDirection" xInvalidDirection "value") (eInvalidMove : Ev1 P w K mg base "InvalidMove" xInvalidMove "value") (eInvalidEdges : Ev1 P w K mg base "InvalidEdges" xInvalidEdges "value") (eInvalidBegins : Ev1 P w K mg base "InvalidBegins" xInvalidBegins "value") (eInvalidEntry : Ev1 P w K mg base "InvalidEntry" xInvalidEntry "value") (eInvalidReach : Ev1 P w K mg base "InvalidReach" xInvalidReach "value") (eInvalidDistance : Ev1 P w K mg base "InvalidDistance" xInvalidDistance "value") (eInvalidLooks : Ev1 P w K mg base "InvalidLooks" xInvalidLooks "value") (eInvalidPlaces : Ev1 P w K mg base "InvalidPlaces" xInvalidPlaces "value") (eInvalidWord : Ev1 P w K mg base "InvalidWord" xInvalidWord "value") (eInvalidTarget : Ev1 P w K mg base "InvalidTarget" xInvalidTarget "value") (eInvalidState : Ev1 P w K mg base "InvalidState" xInvalidState "value") (eInvalidRule : Ev1 P w K mg base "InvalidRule" xInvalidRule "value") (eInvalidTable : Ev1 P w K mg base "InvalidTable" xInvalidTable "value") (eInvalidMap : Ev1 P w K mg base "InvalidMap" xInvalidMap "value") (eInvalidPlan : Ev1 P w K mg base "InvalidPlan" xInvalidPlan "value") (eInvalidGauge : Ev1 P w K mg base "InvalidGauge" xInvalidGauge "value") (eInvalidClaim : Ev1 P w K mg base "InvalidClaim" xInvalidClaim "value") (eInvalidCommand : Ev1 P w K mg base "InvalidCommand" xInvalidCommand "value") (eInvalidRounds : Ev1 P w K mg base "InvalidRounds" xInvalidRounds "position") (eInvalidStates : Ev1 P w K mg base "InvalidStates" xInvalidStates "position") (eInvalidMoves : Ev1 P w K mg base "InvalidMoves" xInvalidMoves "position") (eInvalidText : Ev1 P w K mg base "InvalidText" xInvalidText "line") (eUnknownWord : Ev1 P w K mg base "UnknownWord" xUnknownWord "value") (eCommandFailed : Ev1 P w K mg base "CommandFailed" xCommandFailed "position") (eNotBalanced : Ev2 P w K mg base "NotBalanced" xNotBalanced "columns" "rows") (eOtherPlan : Ev2 P w K mg base "OtherPlan" xOtherPlan "one" "other") (eOtherMap : Ev2 P w K mg base "OtherMap" xOtherMap "one" "other") (eNoNeighbour : Ev2 P w K mg base "NoNeighbour" xNoNeighbour "value" "move") (eTooMany : Ev2 P w K mg base "TooMany" xTooMany "what" "limit") (eDividedByZero : Ev0 K mg "DividedByZero" xDividedByZero) (eNothingToUndo : Ev0 K mg "NothingToUndo" xNothingToUndo) : ErF K (xInvalidNumber :: xInvalidPhase :: xInvalidSign :: xInvalidPair :: xInvalidLength :: xInvalidClosed :: xInvalidAxis :: xInvalidName :: xInvalidPlace :: xInvalidKind :: xInvalidDirection :: xInvalidMove :: xInvalidEdges :: xInvalidBegins :: xInvalidEntry :: xInvalidReach :: xInvalidDistance :: xInvalidLooks :: xInvalidPlaces :: xInvalidWord :: xInvalidTarget :: xInvalidState :: xInvalidRule :: xInvalidTable :: xInvalidMap :: xInvalidPlan :: xInvalidGauge :: xInvalidClaim :: xInvalidCommand :: xInvalidRounds :: xInvalidStates :: xInvalidMoves :: xInvalidText :: xUnknownWord :: xCommandFailed :: xNotBalanced :: xOtherPlan :: xOtherMap :: xNoNeighbour :: xTooMany :: xDividedByZero :: xNothingToUndo :: []) := ⟨fun k C h => by
  match k, h with
  | 0, h =>
    cases h
    exact ⟨eInvalidNumber.k.xf, eInvalidNumber.k.is, fun n hn => by rw [show n = _ from List.mem_singleton.mp hn]; exact eInvalidNumber.no⟩
  | 1, h =>
    cases h
    exact ⟨eInvalidPhase.k.xf, eInvalidPhase.k.is, fun n hn => by rw [show n = _ from List.mem_singleton.mp hn]; exact eInvalidPhase.no⟩
  | 2, h =>
    cases h
    exact ⟨eInvalidSign.k.xf, eInvalidSign.k.is, fun n hn => by rw [show n = _ from List.mem_singleton.mp hn]; exact eInvalidSign.no⟩
  | 3, h =>
    cases h
    exact ⟨eInvalidPair.k.xf, eInvalidPair.k.is, fun n hn => by rw [show n = _ from List.mem_singleton.mp hn]; exact eInvalidPair.no⟩
  | 4, h =>
    cases h
    exact ⟨eInvalidLength.k.xf, eInvalidLength.k.is, fun n hn => by rw [show n = _ from List.mem_singleton.mp hn]; exact eInvalidLength.no⟩
  | 5, h =>
    cases h
    exact ⟨eInvalidClosed.k.xf, eInvalidClosed.k.is, fun n hn => by rw [show n = _ from List.mem_singleton.mp hn]; exact eInvalidClosed.no⟩
  | 6, h =>
    cases h
    exact ⟨eInvalidAxis.k.xf, eInvalidAxis.k.is, fun n hn => by rw [show n = _ from List.mem_singleton.mp hn]; exact eInvalidAxis.no⟩
  | 7, h =>
    cases h
    exact ⟨eInvalidName.k.xf, eInvalidName.k.is, fun n hn => by rw [show n = _ from List.mem_singleton.mp hn]; exact eInvalidName.no⟩
  | 8, h =>
    cases h
    exact ⟨eInvalidPlace.k.xf, eInvalidPlace.k.is, fun n hn => by rw [show n = _ from List.mem_singleton.mp hn]; exact eInvalidPlace.no⟩
  | 9, h =>
    cases h
    exact ⟨eInvalidKind.k.xf, eInvalidKind.k.is, fun n hn => by rw [show n = _ from List.mem_singleton.mp hn]; exact eInvalidKind.no⟩
  | 10, h =>
    cases h
    exact ⟨eInvalidDirection.k.xf, eInvalidDirection.k.is, fun n hn => by rw [show n = _ from List.mem_singleton.mp hn]; exact eInvalidDirection.no⟩
  | 11, h =>
    cases h
    exact ⟨eInvalidMove.k.xf, eInvalidMove.k.is, fun n hn => by rw [show n = _ from List.mem_singleton.mp hn]; exact eInvalidMove.no⟩
  | 12, h =>
    cases h
    exact ⟨eInvalidEdges.k.xf, eInvalidEdges.k.is, fun n hn => by rw [show n = _ from List.mem_singleton.mp hn]; exact eInvalidEdges.no⟩
  | 13, h =>
    cases h
    exact ⟨eInvalidBegins.k.xf, eInvalidBegins.k.is, fun n hn => by rw [show n = _ from List.mem_singleton.mp hn]; exact eInvalidBegins.no⟩
  | 14, h =>
    cases h
    exact ⟨eInvalidEntry.k.xf, eInvalidEntry.k.is, fun n hn => by rw [show n = _ from List.mem_singleton.mp hn]; exact eInvalidEntry.no⟩
  | 15, h =>
    cases h
    exact ⟨eInvalidReach.k.xf, eInvalidReach.k.is, fun n hn => by rw [show n = _ from List.mem_singleton.mp hn]; exact eInvalidReach.no⟩
  | 16, h =>
    cases h
    exact ⟨eInvalidDistance.k.xf, eInvalidDistance.k.is, fun n hn => by rw [show n = _ from List.mem_singleton.mp hn]; exact eInvalidDistance.no⟩
  | 17, h =>
    cases h
    exact ⟨eInvalidLooks.k.xf, eInvalidLooks.k.is, fun n hn => by rw [show n = _ from List.mem_singleton.mp hn]; exact eInvalidLooks.no⟩
  | 18, h =>
    cases h
    exact ⟨eInvalidPlaces.k.xf, eInvalidPlaces.k.is, fun n hn => by rw [show n = _ from List.mem_singleton.mp hn]; exact eInvalidPlaces.no⟩
  | 19, h =>
    cases h
    exact ⟨eInvalidWord.k.xf, eInvalidWord.k.is, fun n hn => by rw [show n = _ from List.mem_singleton.mp hn]; exact eInvalidWord.no⟩
  | 20, h =>
    cases h
    exact ⟨eInvalidTarget.k.xf, eInvalidTarget.k.is, fun n hn => by rw [show n = _ from List.mem_singleton.mp hn]; exact eInvalidTarget.no⟩
  | 21, h =>
    cases h
    exact ⟨eInvalidState.k.xf, eInvalidState.k.is, fun n hn => by rw [show n = _ from List.mem_singleton.mp hn]; exact eInvalidState.no⟩
  | 22, h =>
    cases h
    exact ⟨eInvalidRule.k.xf, eInvalidRule.k.is, fun n hn => by rw [show n = _ from List.mem_singleton.mp hn]; exact eInvalidRule.no⟩
  | 23, h =>
    cases h
    exact ⟨eInvalidTable.k.xf, eInvalidTable.k.is, fun n hn => by rw [show n = _ from List.mem_singleton.mp hn]; exact eInvalidTable.no⟩
  | 24, h =>
    cases h
    exact ⟨eInvalidMap.k.xf, eInvalidMap.k.is, fun n hn => by rw [show n = _ from List.mem_singleton.mp hn]; exact eInvalidMap.no⟩
  | 25, h =>
    cases h
    exact ⟨eInvalidPlan.k.xf, eInvalidPlan.k.is, fun n hn => by rw [show n = _ from List.mem_singleton.mp hn]; exact eInvalidPlan.no⟩
  | 26, h =>
    cases h
    exact ⟨eInvalidGauge.k.xf, eInvalidGauge.k.is, fun n hn => by rw [show n = _ from List.mem_singleton.mp hn]; exact eInvalidGauge.no⟩
  | 27, h =>
    cases h
    exact ⟨eInvalidClaim.k.xf, eInvalidClaim.k.is, fun n hn => by rw [show n = _ from List.mem_singleton.mp hn]; exact eInvalidClaim.no⟩
  | 28, h =>
    cases h
    exact ⟨eInvalidCommand.k.xf, eInvalidCommand.k.is, fun n hn => by rw [show n = _ from List.mem_singleton.mp hn]; exact eInvalidCommand.no⟩
  | 29, h =>
    cases h
    exact ⟨eInvalidRounds.k.xf, eInvalidRounds.k.is, fun n hn => by rw [show n = _ from List.mem_singleton.mp hn]; exact eInvalidRounds.no⟩
  | 30, h =>
    cases h
    exact ⟨eInvalidStates.k.xf, eInvalidStates.k.is, fun n hn => by rw [show n = _ from List.mem_singleton.mp hn]; exact eInvalidStates.no⟩
  | 31, h =>
    cases h
    exact ⟨eInvalidMoves.k.xf, eInvalidMoves.k.is, fun n hn => by rw [show n = _ from List.mem_singleton.mp hn]; exact eInvalidMoves.no⟩
  | 32, h =>
    cases h
    exact ⟨eInvalidText.k.xf, eInvalidText.k.is, fun n hn => by rw [show n = _ from List.mem_singleton.mp hn]; exact eInvalidText.no⟩
  | 33, h =>
    cases h
    exact ⟨eUnknownWord.k.xf, eUnknownWord.k.is, fun n hn => by rw [show n = _ from List.mem_singleton.mp hn]; exact eUnknownWord.no⟩
  | 34, h =>
    cases h
    exact ⟨eCommandFailed.k.xf, eCommandFailed.k.is, fun n hn => by rw [show n = _ from List.mem_singleton.mp hn]; exact eCommandFailed.no⟩
  | 35, h =>
    cases h
    refine ⟨eNotBalanced.k.xf, eNotBalanced.k.is, fun n hn => ?_⟩
    rcases List.mem_cons.mp hn with z | z
    · rw [z]
      exact eNotBalanced.no2
    · rw [show n = _ from List.mem_singleton.mp z]
      exact eNotBalanced.no
  | 36, h =>
    cases h
    refine ⟨eOtherPlan.k.xf, eOtherPlan.k.is, fun n hn => ?_⟩
    rcases List.mem_cons.mp hn with z | z
    · rw [z]
      exact eOtherPlan.no2
    · rw [show n = _ from List.mem_singleton.mp z]
      exact eOtherPlan.no
  | 37, h =>
    cases h
    refine ⟨eOtherMap.k.xf, eOtherMap.k.is, fun n hn => ?_⟩
    rcases List.mem_cons.mp hn with z | z
    · rw [z]
      exact eOtherMap.no2
    · rw [show n = _ from List.mem_singleton.mp z]
      exact eOtherMap.no
  | 38, h =>
    cases h
    refine ⟨eNoNeighbour.k.xf, eNoNeighbour.k.is, fun n hn => ?_⟩
    rcases List.mem_cons.mp hn with z | z
    · rw [z]
      exact eNoNeighbour.no2
    · rw [show n = _ from List.mem_singleton.mp z]
      exact eNoNeighbour.no
  | 39, h =>
    cases h
    refine ⟨eTooMany.k.xf, eTooMany.k.is, fun n hn => ?_⟩
    rcases List.mem_cons.mp hn with z | z
    · rw [z]
      exact eTooMany.no2
    · rw [show n = _ from List.mem_singleton.mp z]
      exact eTooMany.no
  | 40, h =>
    cases h
    exact ⟨eDividedByZero.k.xf, eDividedByZero.k.is, fun n hn => by cases hn⟩
  | 41, h =>
    cases h
    exact ⟨eNothingToUndo.k.xf, eNothingToUndo.k.is, fun n hn => by cases hn⟩
  | k + 42, h => simp at h⟩
end
end T
set_option Elab.async false
set_option maxRecDepth 100000
set_option maxHeartbeats 4000000
namespace T
open PySem L2 Mv
abbrev s_all : Stmt := top 51
theorem sc_all : FnScope ["_law_a", "_law_b", "_law_found"] ["_law_a", "_law_b"] (defScope s_all) := ⟨rfl, rfl, rfl, by decide +kernel, rfl, by decide +kernel, by decide +kernel⟩
section
variable {P : Program} {w : World} {K : PySem.W.Frag} {mg : Str → Option Value} {base : Heap} {xInvalidNumber xInvalidPhase xInvalidSign xInvalidPair xInvalidLength xInvalidClosed xInvalidAxis xInvalidName xInvalidPlace xInvalidKind xInvalidDirection xInvalidMove xInvalidEdges xInvalidBegins xInvalidEntry xInvalidReach xInvalidDistance xInvalidLooks xInvalidPlaces xInvalidWord xInvalidTarget xInvalidState xInvalidRule xInvalidTable xInvalidMap xInvalidPlan xInvalidGauge xInvalidClaim xInvalidCommand xInvalidRounds xInvalidStates xInvalidMoves xInvalidText xUnknownWord xCommandFailed xNotBalanced xOtherPlan xOtherMap xNoNeighbour xTooMany xDividedByZero xNothingToUndo xCellError xMissingError xStateError xLimitError : Addr}
def sp_lall (cs : List Addr) : Sp := fun vs H Q _ => ∃ (a b : V), vs = [a, b] ∧ ∀ l H' es, Same H H' → H' l = some (.lst es) → es.length = 42 → ErL cs H' a b es → Q (.ref l) H'
theorem c_lall {cs : List Addr} {a b : V} {H : Hp} {Q : VK} {E : XK}  (q : ∀ l H' es, Same H H' → H' l = some (.lst es) → es.length = 42 → ErL cs H' a b es → Q (.ref l) H') : sp_lall cs [a, b] H Q E := ⟨_, _, rfl, q⟩
local macro_rules | `(tactic| tb_rel) => `(tactic| repeat (first
  | with_reducible assumption
  | with_reducible exact Dp.int _
  | with_reducible exact Dp.str _
  | with_reducible exact Dp.bl _
  | with_reducible exact Dp.non
  | (with_reducible apply SqT.of; with_reducible assumption)
  | (with_reducible apply SqL.of; with_reducible assumption)
  | (with_reducible apply up_dp; with_reducible assumption)
  | (with_reducible apply up_sqt; with_reducible assumption)
  | (with_reducible apply up_sql; with_reducible assumption)
  | (with_reducible apply up_get; with_reducible assumption)
  | (with_reducible apply up_pot; with_reducible assumption)
  | with_reducible exact Same.refl _
  | with_reducible exact Bu.refl _ _
  | (with_reducible apply up_same; with_reducible assumption)
  | (with_reducible apply up_bu; with_reducible assumption)
  | (with_reducible apply bu_bu; with_reducible assumption)
  | (with_reducible apply free_of; with_reducible assumption)
  | (with_reducible apply mi_fr; with_reducible assumption; (focus (tb_rel; done)))
  | (with_reducible apply mi_dp; with_reducible assumption)
  | (with_reducible apply mi_sqt; with_reducible assumption)
  | (with_reducible apply mi_sql; with_reducible assumption)
  | (with_reducible apply mi_gett; with_reducible assumption)
  | (with_reducible apply mi_getl; with_reducible assumption)
  | (with_reducible apply mi_pot; with_reducible assumption)
  | (with_reducible apply mi_refl; with_reducible assumption; (focus (with_unfolding_all exact rfl)))
  | (with_reducible apply up_mi; with_reducible assumption)
  | (with_reducible apply mi_mi; with_reducible assumption)
  | (with_reducible apply mi_bu; with_reducible assumption)
  | (with_reducible apply bu_gett; with_reducible assumption; (focus (tb_rel; done)))
  | (with_reducible apply bu_geti; with_reducible assumption; (focus (tb_rel; done)))
  | (with_reducible apply bu_get; with_reducible assumption; (focus (tlg_ne; done)))
  | (with_reducible apply bu_sqt; with_reducible assumption; (focus (tb_rel; done)))
  | (with_reducible apply bu_sql; with_reducible assumption; (focus (tlg_ne; done)))
  | (with_reducible apply bu_dp; with_reducible assumption; (focus (tb_rel; done)); (focus (lcg_src; done)))
  | fail "up"))
local macro_rules | `(tactic| tlg_ne) => `(tactic| first
  | with_reducible assumption
  | (with_reducible apply pot_ne; with_reducible assumption; (focus (tb_rel; done)))
  | fail "ne")
local macro_rules | `(tactic| lcg_src) => `(tactic| first
  | with_reducible assumption
  | with_unfolding_all exact rfl
  | with_unfolding_all decide
  | with_unfolding_all exact Nat.ne_of_beq_eq_false rfl
  | (apply_assumption; done)
  | omega
  | (simp; done)
  | (simp; omega)
  | fail "sd")
local macro_rules | `(tactic| lcg_sub) => `(tactic| first
  | (unfold sizeLine; omega)
  | (simp only [List.length_cons, List.length_nil, List.length_append, List.length_map, List.length_replicate, List.length_take, List.length_drop]; unfold sizeLine; omega)
  | (simp; unfold sizeLine; omega)
  | fail "sz")
local macro_rules | `(tactic| nest_cls) => `(tactic| first
  | (tb_rel; done)
  | (with_reducible apply nmI; (focus (tb_rel; done)))
  | (with_reducible apply d_tup; (focus (tb_rel; done)); (focus (lsm_bools; done)))
  | (with_reducible apply d_lst; (focus (tb_rel; done)); (focus (lsm_bools; done)))
  | fail "dp")
local macro_rules | `(tactic| lsm_bools) => `(tactic| repeat (first
  | with_reducible exact DpAll.nil
  | with_reducible assumption
  | (with_reducible apply DpAll.cons; (focus (nest_cls; done)))
  | fail "dpa"))
local macro_rules | `(tactic| none_booked) => `(tactic| first | with_unfolding_all exact rfl | (with_reducible apply atI_nat; with_reducible assumption) | fail "ix")
local macro_rules | `(tactic| walk_at "go") => `(tactic| repeat (first
  | (focus (with_reducible refine go_var (v := ?_) ?_ ?_; rotate_left; (focus (with_unfolding_all exact rfl))))
  | with_reducible refine go_seq ?_
  | with_reducible refine go_cN ?_
  | with_reducible refine go_c ?_
  | with_reducible refine go_op ?_
  | with_reducible refine go_nil ?_
  | with_reducible refine go_cons ?_
  | with_reducible refine go_cb ?_
  | with_reducible refine go_call0 ?_
  | with_reducible refine go_asg ?_
  | (focus (with_reducible refine go_gname (σ' := ?_) ?_ ?_; rotate_left; (focus (simp only [List.set_cons_succ, List.set_cons_zero]; exact rfl))))
  | with_reducible refine go_par ?_
  | with_reducible refine go_par3 ?_
  | (focus (with_reducible refine go_par3k (σ' := ?_) ?_ ?_; rotate_left; (focus (simp only [List.set_cons_succ, List.set_cons_zero]; exact rfl))))
  | with_reducible refine go_bm ?_
  | (with_reducible apply go_bmL; (focus (tb_rel; done)))
  | (with_reducible apply go_fdX; (focus (with_reducible assumption; done)))
  | (with_reducible apply go_rI; (focus (with_reducible assumption; done)))
  | (focus (with_reducible refine go_par2 (σ' := ?_) ?_ ?_; rotate_left; (focus (simp only [List.set_cons_succ, List.set_cons_zero]; exact rfl))))
  | with_reducible refine go_ifs ?_
  | with_reducible refine go_test ?_
  | with_reducible refine go_tb ?_
  | with_reducible refine go_asb ?_
  | with_reducible refine go_asi ?_
  | with_reducible refine go_ret ?_
  | with_reducible refine go_retn ?_
  | with_reducible refine go_drop ?_
  | with_reducible refine go_next ?_
  | with_reducible refine go_and ?_
  | with_reducible refine go_or ?_
  | with_reducible refine go_not ?_
  | with_reducible refine go_andv ?_
  | with_reducible refine go_orv ?_
  | with_reducible refine go_notv ?_
  | with_reducible refine go_ife ?_
  | with_reducible refine go_chain ?_
  | with_reducible refine go_if1 ?_
  | with_reducible refine go_if0 ?_
  | with_reducible refine go_ifn1 ?_
  | with_reducible refine go_ifn0 ?_
  | (with_reducible apply go_ift; (focus (first | with_reducible rfl | with_reducible assumption | omega)))
  | (with_reducible apply go_ifnt; (focus (first | with_reducible rfl | with_reducible assumption | omega)))
  | (with_reducible apply go_iff; (focus (first | with_reducible assumption | omega)))
  | (with_reducible apply go_ifnf; (focus (first | with_reducible assumption | omega)))
  | with_reducible refine go_un ?_
  | with_reducible refine go_tup ?_
  | with_reducible refine go_lst ?_
  | (with_reducible apply go_newt; (focus (lcg_sub; done)); intros)
  | (with_reducible apply go_newl; (focus (lcg_sub; done)); intros)
  | with_reducible refine go_meth ?_
  | with_reducible refine go_for ?_
  | with_reducible refine go_lc ?_
  | with_reducible refine go_irng1 ?_
  | with_reducible refine go_irng2 ?_
  | with_reducible refine go_ilist ?_
  | with_reducible refine go_itup ?_
  | with_reducible refine go_izip ?_
  | with_reducible refine go_ienum ?_
  | (with_reducible apply go_rg1; (focus (lcg_src; done)))
  | (with_reducible apply go_rg2; (focus (lcg_src; done)); (focus (lcg_src; done)))
  | (with_reducible apply go_lsr; (focus (tb_rel; done)))
  | (with_reducible apply go_tpr; (focus (tb_rel; done)))
  | (with_reducible apply go_zpr; (focus (tb_rel; done)); (focus (tb_rel; done)))
  | (with_reducible apply go_zprT; (focus (tb_rel; done)); (focus (tb_rel; done)))
  | (with_reducible apply go_enrL; (focus (tb_rel; done)))
  | (with_reducible apply go_enrT; (focus (tb_rel; done)))
  | with_reducible refine go_prop ?_
  | with_reducible refine go_knr0 ?_
  | (with_reducible apply go_knr; (focus (with_unfolding_all exact rfl; done)); (focus (simp only [kSw2, kRev3, kId, List.nil_append, List.cons_append]; exact rfl)))
  | with_reducible refine go_mkn ?_
  | (with_reducible apply go_mkr; (focus (tb_rel; done)); (focus (with_unfolding_all exact rfl; done)))
  | with_reducible refine go_fld ?_
  | (with_reducible apply go_flr; (focus (tb_rel; done)); (focus (with_reducible assumption; done)); (focus (with_reducible assumption; done)); (focus (with_unfolding_all exact rfl; done)))
  | (with_reducible apply go_prr; (focus (tb_rel; done)))
  | (with_reducible apply go_mer; (focus (tb_rel; done)); (focus (with_unfolding_all exact rfl; done)))
  | with_reducible refine go_sfld ?_
  | (with_reducible apply go_sfr; (focus (tb_rel; done)); (focus (with_reducible assumption; done)); (focus (with_reducible assumption; done)); (focus (with_unfolding_all exact Nat.le_of_ble_eq_true rfl; done)); (focus (with_unfolding_all exact rfl; done)); intros)
  | with_reducible refine go_revt ?_
  | with_reducible refine go_make0 ?_
  | (focus (with_reducible refine go_aug (x := ?_) ?_ ?_; rotate_left; (focus (with_unfolding_all exact rfl))))
  | (focus (with_reducible refine go_augk (σ' := ?_) ?_ ?_; rotate_left; (focus (simp only [List.set_cons_succ, List.set_cons_zero]; exact rfl))))
  | with_reducible refine go_min2 ?_
  | with_reducible refine go_int1 ?_
  | with_reducible refine go_max2 ?_
  | with_reducible refine go_intB ?_
  | with_reducible refine go_absN ?_
  | with_reducible refine go_isN ?_
  | with_reducible refine go_notN ?_
  | (with_reducible apply go_rvt; (focus (tb_rel; done)); (focus (simp only [List.reverse_cons, List.reverse_nil, List.nil_append, List.cons_append]; exact rfl)); intros)
  | (with_reducible apply go_reprNm; (focus (tb_rel; done)); (focus (with_reducible assumption; done)))
  | (with_reducible apply go_reprPr; (focus (nest_cls; done)); (focus (lcg_src; done)); (focus (lcg_src; done)))
  | with_reducible refine go_sl ?_
  | with_reducible refine go_part ?_
  | with_reducible refine go_nopart ?_
  | (with_reducible apply go_gtup; (focus (tb_rel; done)); (focus (with_unfolding_all exact rfl; done)))
  | (with_reducible apply go_gunl; (focus (tb_rel; done)); (focus (with_unfolding_all exact rfl; done)))
  | with_reducible refine go_gcons ?_
  | with_reducible refine go_gnil ?_
  | with_reducible refine go_addN ?_
  | with_reducible refine go_ltN ?_
  | with_reducible refine go_leN ?_
  | with_reducible refine go_gtN ?_
  | with_reducible refine go_geN ?_
  | (with_reducible apply go_subN; (focus (omega; done)))
  | with_reducible refine go_rI0 ?_
  | (with_reducible apply go_mulN; (focus (omega; done)))
  | (with_reducible apply go_modN; (focus (omega; done)))
  | (with_reducible apply go_divN; (focus (omega; done)))
  | (with_reducible apply go_powN; (focus (with_unfolding_all decide; done)))
  | with_reducible refine go_rU ?_
  | with_reducible refine go_eqN ?_
  | with_reducible refine go_neN ?_
  | with_reducible refine go_isB ?_
  | with_reducible refine go_notB ?_
  | with_reducible refine go_eqS ?_
  | with_reducible refine go_neS ?_
  | with_reducible refine go_eqB ?_
  | with_reducible refine go_eqI ?_
  | with_reducible refine go_neI ?_
  | (with_reducible apply go_ixt; (focus (tb_rel; done)); (focus (none_booked; done)))
  | (with_reducible apply go_ixl; (focus (tb_rel; done)); (focus (none_booked; done)))
  | (with_reducible apply go_lent; (focus (tb_rel; done)))
  | (with_reducible apply go_lenNm; (focus (tb_rel; done)))
  | (with_reducible apply go_isiNm; (focus (tb_rel; done)))
  | (with_reducible apply go_lenl; (focus (tb_rel; done)))
  | (with_reducible apply go_catA; (focus (tb_rel; done)); (focus (tb_rel; done)); (focus (lcg_sub; done)); intros)
  | (with_reducible apply go_slaT; (focus (tb_rel; done)); intros)
  | (with_reducible apply go_slaD; (focus (tb_rel; done)); intros)
  | (with_reducible apply go_rep; (focus (tb_rel; done)); (focus (lcg_src; done)); intros)
  | (with_reducible apply go_tupofl; (focus (tb_rel; done)); intros)
  | (with_reducible apply go_sllT; (focus (tb_rel; done)); intros)
  | (with_reducible apply go_sllD; (focus (tb_rel; done)); intros)
  | (with_reducible apply go_cat; (focus (tb_rel; done)); (focus (tb_rel; done)); (focus (lcg_sub; done)); intros)
  | (with_reducible apply c_lall; intros)
  | with_reducible refine go_ev1 ?_
  | with_reducible refine go_ev2 ?_
  | with_reducible refine go_evk ?_
  | with_reducible refine go_evf ?_
  | fail "go"))
theorem ok_all {f : Addr} {fd : FuncData} (F : Df K "_law_all" "_law_all" s_all [] f fd) (B : Blt mg) (eInvalidNumber : Ev1 P w K mg base "InvalidNumber" xInvalidNumber "value") (eInvalidPhase : Ev1 P w K mg base "InvalidPhase" xInvalidPhase "value") (eInvalidSign : Ev1 P w K mg base "InvalidSign" xInvalidSign "value") (eInvalidPair : Ev1 P w K mg base "InvalidPair" xInvalidPair "value") (eInvalidLength : Ev1 P w K mg base "InvalidLength" xInvalidLength "value") (eInvalidClosed : Ev1 P w K mg base "InvalidClosed" xInvalidClosed "value") (eInvalidAxis : Ev1 P w K mg base "InvalidAxis" xInvalidAxis "value") (eInvalidName : Ev1 P w K mg base "InvalidName" xInvalidName "value") (eInvalidPlace : Ev1 P w K mg base "InvalidPlace" xInvalidPlace "value") (eInvalidKind : Ev1 P w K mg base "InvalidKind" xInvalidKind "value") (eInvalidDirection : Ev1 P w K mg base "InvalidDirection" xInvalidDirection "value") (eInvalidMove : Ev1 P w K mg base "InvalidMove" xInvalidMove "value") (eInvalidEdges : Ev1 P w K mg base "InvalidEdges" xInvalidEdges "value") (eInvalidBegins : Ev1 P w K mg base "InvalidBegins" xInvalidBegins "value") (eInvalidEntry : Ev1 P w K mg base "InvalidEntry" xInvalidEntry "value") (eInvalidReach : Ev1 P w K mg base "InvalidReach" xInvalidReach "value") (eInvalidDistance : Ev1 P w K mg base "InvalidDistance" xInvalidDistance "value") (eInvalidLooks : Ev1 P w K mg base "InvalidLooks" xInvalidLooks "value") (eInvalidPlaces : Ev1 P w K mg base "InvalidPlaces" xInvalidPlaces "value") (eInvalidWord : Ev1 P w K mg base "InvalidWord" xInvalidWord "value") (eInvalidTarget : Ev1 P w K mg base "InvalidTarget" xInvalidTarget "value") (eInvalidState : Ev1 P w K mg base "InvalidState" xInvalidState "value") (eInvalidRule : Ev1 P w K mg base "InvalidRule" xInvalidRule "value") (eInvalidTable : Ev1 P w K mg base "InvalidTable" xInvalidTable "value") (eInvalidMap : Ev1 P w K mg base "InvalidMap" xInvalidMap "value") (eInvalidPlan : Ev1 P w K mg base "InvalidPlan" xInvalidPlan "value") (eInvalidGauge : Ev1 P w K mg base "InvalidGauge" xInvalidGauge "value") (eInvalidClaim : Ev1 P w K mg base "InvalidClaim" xInvalidClaim "value") (eInvalidCommand : Ev1 P w K mg base "InvalidCommand" xInvalidCommand "value") (eInvalidRounds : Ev1 P w K mg base "InvalidRounds" xInvalidRounds "position") (eInvalidStates : Ev1 P w K mg base "InvalidStates" xInvalidStates "position") (eInvalidMoves : Ev1 P w K mg base "InvalidMoves" xInvalidMoves "position") (eInvalidText : Ev1 P w K mg base "InvalidText" xInvalidText "line") (eUnknownWord : Ev1 P w K mg base "UnknownWord" xUnknownWord "value") (eCommandFailed : Ev1 P w K mg base "CommandFailed" xCommandFailed "position") (eNotBalanced : Ev2 P w K mg base "NotBalanced" xNotBalanced "columns" "rows") (eOtherPlan : Ev2 P w K mg base "OtherPlan" xOtherPlan "one" "other") (eOtherMap : Ev2 P w K mg base "OtherMap" xOtherMap "one" "other") (eNoNeighbour : Ev2 P w K mg base "NoNeighbour" xNoNeighbour "value" "move") (eTooMany : Ev2 P w K mg base "TooMany" xTooMany "what" "limit") (eDividedByZero : Ev0 K mg "DividedByZero" xDividedByZero) (eNothingToUndo : Ev0 K mg "NothingToUndo" xNothingToUndo) : FnOk P w K mg base CX0 3 f fd ["_law_a", "_law_b"] (sp_lall (xInvalidNumber :: xInvalidPhase :: xInvalidSign :: xInvalidPair :: xInvalidLength :: xInvalidClosed :: xInvalidAxis :: xInvalidName :: xInvalidPlace :: xInvalidKind :: xInvalidDirection :: xInvalidMove :: xInvalidEdges :: xInvalidBegins :: xInvalidEntry :: xInvalidReach :: xInvalidDistance :: xInvalidLooks :: xInvalidPlaces :: xInvalidWord :: xInvalidTarget :: xInvalidState :: xInvalidRule :: xInvalidTable :: xInvalidMap :: xInvalidPlan :: xInvalidGauge :: xInvalidClaim :: xInvalidCommand :: xInvalidRounds :: xInvalidStates :: xInvalidMoves :: xInvalidText :: xUnknownWord :: xCommandFailed :: xNotBalanced :: xOtherPlan :: xOtherMap :: xNoNeighbour :: xTooMany :: xDividedByZero :: xNothingToUndo :: [])) := by
  refine dfOk F sc_all (fun vs H Q E h => ?_) (fun cdv A outer s H vs Q E hr h => ?_)
  · obtain ⟨a, b, rfl, _⟩ := h
    rfl
  · obtain ⟨a, b, rfl, q⟩ := h
    refine ⟨_, (pss_cons (ps_set (i := 2) sc_all.nd rfl (Or.inl rfl) (pe_lst (pa_cons (pe_ev1 eInvalidNumber hr (by decide) (by rfl) (pa_cons (pv 0) pa_nil)) (pa_cons (pe_ev1 eInvalidPhase hr (by decide) (by rfl) (pa_cons (pv 0) pa_nil)) (pa_cons (pe_ev1 eInvalidSign hr (by decide) (by rfl) (pa_cons (pv 0) pa_nil)) (pa_cons (pe_ev1 eInvalidPair hr (by decide) (by rfl) (pa_cons (pv 0) pa_nil)) (pa_cons (pe_ev1 eInvalidLength hr (by decide) (by rfl) (pa_cons (pv 0) pa_nil)) pa_nil)))))))
  (pss_cons (ps_expr (pe_bm' PySem.F.plainAttrs_list PySem.F.slot_list_extend PySem.F.type_list_extend mt_extend (pv 2) (pa_cons (pe_lst (pa_cons (pe_ev1 eInvalidClosed hr (by decide) (by rfl) (pa_cons (pv 0) pa_nil)) (pa_cons (pe_ev1 eInvalidAxis hr (by decide) (by rfl) (pa_cons (pv 0) pa_nil)) (pa_cons (pe_ev1 eInvalidName hr (by decide) (by rfl) (pa_cons (pv 0) pa_nil)) (pa_cons (pe_ev1 eInvalidPlace hr (by decide) (by rfl) (pa_cons (pv 0) pa_nil)) (pa_cons (pe_ev1 eInvalidKind hr (by decide) (by rfl) (pa_cons (pv 0) pa_nil)) pa_nil)))))) pa_nil)))
  (pss_cons (ps_expr (pe_bm' PySem.F.plainAttrs_list PySem.F.slot_list_extend PySem.F.type_list_extend mt_extend (pv 2) (pa_cons (pe_lst (pa_cons (pe_ev1 eInvalidDirection hr (by decide) (by rfl) (pa_cons (pv 0) pa_nil)) (pa_cons (pe_ev1 eInvalidMove hr (by decide) (by rfl) (pa_cons (pv 0) pa_nil)) (pa_cons (pe_ev1 eInvalidEdges hr (by decide) (by rfl) (pa_cons (pv 0) pa_nil)) (pa_cons (pe_ev1 eInvalidBegins hr (by decide) (by rfl) (pa_cons (pv 0) pa_nil)) (pa_cons (pe_ev1 eInvalidEntry hr (by decide) (by rfl) (pa_cons (pv 0) pa_nil)) pa_nil)))))) pa_nil)))
  (pss_cons (ps_expr (pe_bm' PySem.F.plainAttrs_list PySem.F.slot_list_extend PySem.F.type_list_extend mt_extend (pv 2) (pa_cons (pe_lst (pa_cons (pe_ev1 eInvalidReach hr (by decide) (by rfl) (pa_cons (pv 0) pa_nil)) (pa_cons (pe_ev1 eInvalidDistance hr (by decide) (by rfl) (pa_cons (pv 0) pa_nil)) (pa_cons (pe_ev1 eInvalidLooks hr (by decide) (by rfl) (pa_cons (pv 0) pa_nil)) (pa_cons (pe_ev1 eInvalidPlaces hr (by decide) (by rfl) (pa_cons (pv 0) pa_nil)) (pa_cons (pe_ev1 eInvalidWord hr (by decide) (by rfl) (pa_cons (pv 0) pa_nil)) pa_nil)))))) pa_nil)))
  (pss_cons (ps_expr (pe_bm' PySem.F.plainAttrs_list PySem.F.slot_list_extend PySem.F.type_list_extend mt_extend (pv 2) (pa_cons (pe_lst (pa_cons (pe_ev1 eInvalidTarget hr (by decide) (by rfl) (pa_cons (pv 0) pa_nil)) (pa_cons (pe_ev1 eInvalidState hr (by decide) (by rfl) (pa_cons (pv 0) pa_nil)) (pa_cons (pe_ev1 eInvalidRule hr (by decide) (by rfl) (pa_cons (pv 0) pa_nil)) (pa_cons (pe_ev1 eInvalidTable hr (by decide) (by rfl) (pa_cons (pv 0) pa_nil)) (pa_cons (pe_ev1 eInvalidMap hr (by decide) (by rfl) (pa_cons (pv 0) pa_nil)) pa_nil)))))) pa_nil)))
  (pss_cons (ps_expr (pe_bm' PySem.F.plainAttrs_list PySem.F.slot_list_extend PySem.F.type_list_extend mt_extend (pv 2) (pa_cons (pe_lst (pa_cons (pe_ev1 eInvalidPlan hr (by decide) (by rfl) (pa_cons (pv 0) pa_nil)) (pa_cons (pe_ev1 eInvalidGauge hr (by decide) (by rfl) (pa_cons (pv 0) pa_nil)) (pa_cons (pe_ev1 eInvalidClaim hr (by decide) (by rfl) (pa_cons (pv 0) pa_nil)) (pa_cons (pe_ev1 eInvalidCommand hr (by decide) (by rfl) (pa_cons (pv 0) pa_nil)) (pa_cons (pe_ev1 eInvalidRounds hr (by decide) (by rfl) (pa_cons (pv 0) pa_nil)) pa_nil)))))) pa_nil)))
  (pss_cons (ps_expr (pe_bm' PySem.F.plainAttrs_list PySem.F.slot_list_extend PySem.F.type_list_extend mt_extend (pv 2) (pa_cons (pe_lst (pa_cons (pe_ev1 eInvalidStates hr (by decide) (by rfl) (pa_cons (pv 0) pa_nil)) (pa_cons (pe_ev1 eInvalidMoves hr (by decide) (by rfl) (pa_cons (pv 0) pa_nil)) (pa_cons (pe_ev1 eInvalidText hr (by decide) (by rfl) (pa_cons (pv 0) pa_nil)) (pa_cons (pe_ev1 eUnknownWord hr (by decide) (by rfl) (pa_cons (pv 0) pa_nil)) (pa_cons (pe_ev1 eCommandFailed hr (by decide) (by rfl) (pa_cons (pv 0) pa_nil)) pa_nil)))))) pa_nil)))
  (pss_cons (ps_expr (pe_bm' PySem.F.plainAttrs_list PySem.F.slot_list_extend PySem.F.type_list_extend mt_extend (pv 2) (pa_cons (pe_lst (pa_cons (pe_ev2 eNotBalanced hr (by decide) (by rfl) (pa_cons (pv 0) (pa_cons (pv 1) pa_nil))) (pa_cons (pe_ev2 eOtherPlan hr (by decide) (by rfl) (pa_cons (pv 0) (pa_cons (pv 1) pa_nil))) (pa_cons (pe_ev2 eOtherMap hr (by decide) (by rfl) (pa_cons (pv 0) (pa_cons (pv 1) pa_nil))) (pa_cons (pe_ev2 eNoNeighbour hr (by decide) (by rfl) (pa_cons (pv 0) (pa_cons (pv 1) pa_nil))) (pa_cons (pe_ev2 eTooMany hr (by decide) (by rfl) (pa_cons (pv 0) (pa_cons (pv 1) pa_nil))) pa_nil)))))) pa_nil)))
  (pss_cons (ps_expr (pe_bm' PySem.F.plainAttrs_list PySem.F.slot_list_extend PySem.F.type_list_extend mt_extend (pv 2) (pa_cons (pe_lst (pa_cons (pe_ev0 eDividedByZero (by rfl)) (pa_cons (pe_ev0 eNothingToUndo (by rfl)) pa_nil))) pa_nil)))
  (pss_one (ps_ret (pv 2)))))))))))), ?_⟩
    refine go_start (σ := [some _, some _, none]) rfl ?_
    walk_at "go"
    refine go_ev1r fun a0 H0 s0 e0 => ?_
    have L0 := (ErK.nil (cs := (xInvalidNumber :: xInvalidPhase :: xInvalidSign :: xInvalidPair :: xInvalidLength :: xInvalidClosed :: xInvalidAxis :: xInvalidName :: xInvalidPlace :: xInvalidKind :: xInvalidDirection :: xInvalidMove :: xInvalidEdges :: xInvalidBegins :: xInvalidEntry :: xInvalidReach :: xInvalidDistance :: xInvalidLooks :: xInvalidPlaces :: xInvalidWord :: xInvalidTarget :: xInvalidState :: xInvalidRule :: xInvalidTable :: xInvalidMap :: xInvalidPlan :: xInvalidGauge :: xInvalidClaim :: xInvalidCommand :: xInvalidRounds :: xInvalidStates :: xInvalidMoves :: xInvalidText :: xUnknownWord :: xCommandFailed :: xNotBalanced :: xOtherPlan :: xOtherMap :: xNoNeighbour :: xTooMany :: xDividedByZero :: xNothingToUndo :: [])) (H := H) (a := a) (b := b) (n := 0)).put (k := 0) (ys := [.ref a0]) s0 (.mk1 e0 rfl rfl rfl) rfl rfl
    have S0 := s0
    clear e0 s0
    walk_at "go"
    refine go_ev1r fun a1 H1 s1 e1 => ?_
    have L1 := L0.put (k := 1) (ys := [.ref a0, .ref a1]) s1 (.mk1 e1 rfl rfl rfl) rfl rfl
    have S1 := S0.trans s1
    clear L0 S0 e1 s1
    walk_at "go"
    refine go_ev1r fun a2 H2 s2 e2 => ?_
    have L2 := L1.put (k := 2) (ys := [.ref a0, .ref a1, .ref a2]) s2 (.mk1 e2 rfl rfl rfl) rfl rfl
    have S2 := S1.trans s2
    clear L1 S1 e2 s2
    walk_at "go"
    refine go_ev1r fun a3 H3 s3 e3 => ?_
    have L3 := L2.put (k := 3) (ys := [.ref a0, .ref a1, .ref a2, .ref a3]) s3 (.mk1 e3 rfl rfl rfl) rfl rfl
    have S3 := S2.trans s3
    clear L2 S2 e3 s3
    walk_at "go"
    refine go_ev1r fun a4 H4 s4 e4 => ?_
    have L4 := L3.put (k := 4) (ys := [.ref a0, .ref a1, .ref a2, .ref a3, .ref a4]) s4 (.mk1 e4 rfl rfl rfl) rfl rfl
    have S4 := S3.trans s4
    clear L3 S3 e4 s4
    walk_at "go"
    rename_i l G0 n z k0
    have M0 := ErL.of0 (L4.same z)
    have U0 := S4.trans z
    have n0 : H l = none := S4.free n
    clear n z L4 S4
    obtain ⟨x0, y0, z0⟩ : ∃ xs, [V.ref a0, V.ref a1, V.ref a2, V.ref a3, V.ref a4] = xs ∧ xs.length = 5 := ⟨_, rfl, rfl⟩
    rw [y0] at k0 M0
    clear y0
    walk_at "go"
    refine go_ev1r fun a5 H5 s5 e5 => ?_
    have L5 := (ErK.nil (cs := (xInvalidNumber :: xInvalidPhase :: xInvalidSign :: xInvalidPair :: xInvalidLength :: xInvalidClosed :: xInvalidAxis :: xInvalidName :: xInvalidPlace :: xInvalidKind :: xInvalidDirection :: xInvalidMove :: xInvalidEdges :: xInvalidBegins :: xInvalidEntry :: xInvalidReach :: xInvalidDistance :: xInvalidLooks :: xInvalidPlaces :: xInvalidWord :: xInvalidTarget :: xInvalidState :: xInvalidRule :: xInvalidTable :: xInvalidMap :: xInvalidPlan :: xInvalidGauge :: xInvalidClaim :: xInvalidCommand :: xInvalidRounds :: xInvalidStates :: xInvalidMoves :: xInvalidText :: xUnknownWord :: xCommandFailed :: xNotBalanced :: xOtherPlan :: xOtherMap :: xNoNeighbour :: xTooMany :: xDividedByZero :: xNothingToUndo :: [])) (H := G0) (a := a) (b := b) (n := 5)).put (k := 5) (ys := [.ref a5]) s5 (.mk1 e5 rfl rfl rfl) rfl rfl
    have S5 := s5
    clear e5 s5
    walk_at "go"
    refine go_ev1r fun a6 H6 s6 e6 => ?_
    have L6 := L5.put (k := 6) (ys := [.ref a5, .ref a6]) s6 (.mk1 e6 rfl rfl rfl) rfl rfl
    have S6 := S5.trans s6
    clear L5 S5 e6 s6
    walk_at "go"
    refine go_ev1r fun a7 H7 s7 e7 => ?_
    have L7 := L6.put (k := 7) (ys := [.ref a5, .ref a6, .ref a7]) s7 (.mk1 e7 rfl rfl rfl) rfl rfl
    have S7 := S6.trans s7
    clear L6 S6 e7 s7
    walk_at "go"
    refine go_ev1r fun a8 H8 s8 e8 => ?_
    have L8 := L7.put (k := 8) (ys := [.ref a5, .ref a6, .ref a7, .ref a8]) s8 (.mk1 e8 rfl rfl rfl) rfl rfl
    have S8 := S7.trans s8
    clear L7 S7 e8 s8
    walk_at "go"
    refine go_ev1r fun a9 H9 s9 e9 => ?_
    have L9 := L8.put (k := 9) (ys := [.ref a5, .ref a6, .ref a7, .ref a8, .ref a9]) s9 (.mk1 e9 rfl rfl rfl) rfl rfl
    have S9 := S8.trans s9
    clear L8 S8 e9 s9
    have l1 := S9 _ _ k0
    walk_at "go"
    rename_i m J n z e
    have f := z _ _ l1
    refine go_ext f e (by rw [z0]; exact Nat.le_of_ble_eq_true rfl) ?_
    generalize hG : upd J l _ = G1
    have M1 := ErL.ext (M0.same (S9.trans z)) (L9.same z) z0 f hG
    have U1 := same_setG (U0.trans (S9.trans z)) n0 hG
    have k1 := at_setG hG
    clear hG f n z e M0 U0 L9 S9 l1 k0
    obtain ⟨x1, y1, z1⟩ : ∃ xs, x0 ++ [V.ref a5, V.ref a6, V.ref a7, V.ref a8, V.ref a9] = xs ∧ xs.length = 10 := ⟨_, rfl, by rw [List.length_append, z0]; rfl⟩
    rw [y1] at k1 M1
    clear y1 z0
    walk_at "go"
    refine go_ev1r fun a10 H10 s10 e10 => ?_
    have L10 := (ErK.nil (cs := (xInvalidNumber :: xInvalidPhase :: xInvalidSign :: xInvalidPair :: xInvalidLength :: xInvalidClosed :: xInvalidAxis :: xInvalidName :: xInvalidPlace :: xInvalidKind :: xInvalidDirection :: xInvalidMove :: xInvalidEdges :: xInvalidBegins :: xInvalidEntry :: xInvalidReach :: xInvalidDistance :: xInvalidLooks :: xInvalidPlaces :: xInvalidWord :: xInvalidTarget :: xInvalidState :: xInvalidRule :: xInvalidTable :: xInvalidMap :: xInvalidPlan :: xInvalidGauge :: xInvalidClaim :: xInvalidCommand :: xInvalidRounds :: xInvalidStates :: xInvalidMoves :: xInvalidText :: xUnknownWord :: xCommandFailed :: xNotBalanced :: xOtherPlan :: xOtherMap :: xNoNeighbour :: xTooMany :: xDividedByZero :: xNothingToUndo :: [])) (H := G1) (a := a) (b := b) (n := 10)).put (k := 10) (ys := [.ref a10]) s10 (.mk1 e10 rfl rfl rfl) rfl rfl
    have S10 := s10
    clear e10 s10
    walk_at "go"
    refine go_ev1r fun a11 H11 s11 e11 => ?_
    have L11 := L10.put (k := 11) (ys := [.ref a10, .ref a11]) s11 (.mk1 e11 rfl rfl rfl) rfl rfl
    have S11 := S10.trans s11
    clear L10 S10 e11 s11
    walk_at "go"
    refine go_ev1r fun a12 H12 s12 e12 => ?_
    have L12 := L11.put (k := 12) (ys := [.ref a10, .ref a11, .ref a12]) s12 (.mk1 e12 rfl rfl rfl) rfl rfl
    have S12 := S11.trans s12
    clear L11 S11 e12 s12
    walk_at "go"
    refine go_ev1r fun a13 H13 s13 e13 => ?_
    have L13 := L12.put (k := 13) (ys := [.ref a10, .ref a11, .ref a12, .ref a13]) s13 (.mk1 e13 rfl rfl rfl) rfl rfl
    have S13 := S12.trans s13
    clear L12 S12 e13 s13
    walk_at "go"
    refine go_ev1r fun a14 H14 s14 e14 => ?_
    have L14 := L13.put (k := 14) (ys := [.ref a10, .ref a11, .ref a12, .ref a13, .ref a14]) s14 (.mk1 e14 rfl rfl rfl) rfl rfl
    have S14 := S13.trans s14
    clear L13 S13 e14 s14
    have l2 := S14 _ _ k1
    walk_at "go"
    rename_i m J n z e
    have f := z _ _ l2
    refine go_ext f e (by rw [z1]; exact Nat.le_of_ble_eq_true rfl) ?_
    generalize hG : upd J l _ = G2
    have M2 := ErL.ext (M1.same (S14.trans z)) (L14.same z) z1 f hG
    have U2 := same_setG (U1.trans (S14.trans z)) n0 hG
    have k2 := at_setG hG
    clear hG f n z e M1 U1 L14 S14 l2 k1
    obtain ⟨x2, y2, z2⟩ : ∃ xs, x1 ++ [V.ref a10, V.ref a11, V.ref a12, V.ref a13, V.ref a14] = xs ∧ xs.length = 15 := ⟨_, rfl, by rw [List.length_append, z1]; rfl⟩
    rw [y2] at k2 M2
    clear y2 z1
    walk_at "go"
    refine go_ev1r fun a15 H15 s15 e15 => ?_
    have L15 := (ErK.nil (cs := (xInvalidNumber :: xInvalidPhase :: xInvalidSign :: xInvalidPair :: xInvalidLength :: xInvalidClosed :: xInvalidAxis :: xInvalidName :: xInvalidPlace :: xInvalidKind :: xInvalidDirection :: xInvalidMove :: xInvalidEdges :: xInvalidBegins :: xInvalidEntry :: xInvalidReach :: xInvalidDistance :: xInvalidLooks :: xInvalidPlaces :: xInvalidWord :: xInvalidTarget :: xInvalidState :: xInvalidRule :: xInvalidTable :: xInvalidMap :: xInvalidPlan :: xInvalidGauge :: xInvalidClaim :: xInvalidCommand :: xInvalidRounds :: xInvalidStates :: xInvalidMoves :: xInvalidText :: xUnknownWord :: xCommandFailed :: xNotBalanced :: xOtherPlan :: xOtherMap :: xNoNeighbour :: xTooMany :: xDividedByZero :: xNothingToUndo :: [])) (H := G2) (a := a) (b := b) (n := 15)).put (k := 15) (ys := [.ref a15]) s15 (.mk1 e15 rfl rfl rfl) rfl rfl
    have S15 := s15
    clear e15 s15
    walk_at "go"
    refine go_ev1r fun a16 H16 s16 e16 => ?_
    have L16 := L15.put (k := 16) (ys := [.ref a15, .ref a16]) s16 (.mk1 e16 rfl rfl rfl) rfl rfl
    have S16 := S15.trans s16
    clear L15 S15 e16 s16
    walk_at "go"
    refine go_ev1r fun a17 H17 s17 e17 => ?_
    have L17 := L16.put (k := 17) (ys := [.ref a15, .ref a16, .ref a17]) s17 (.mk1 e17 rfl rfl rfl) rfl rfl
    have S17 := S16.trans s17
    clear L16 S16 e17 s17
    walk_at "go"
    refine go_ev1r fun a18 H18 s18 e18 => ?_
    have L18 := L17.put (k := 18) (ys := [.ref a15, .ref a16, .ref a17, .ref a18]) s18 (.mk1 e18 rfl rfl rfl) rfl rfl
    have S18 := S17.trans s18
    clear L17 S17 e18 s18
    walk_at "go"
    refine go_ev1r fun a19 H19 s19 e19 => ?_
    have L19 := L18.put (k := 19) (ys := [.ref a15, .ref a16, .ref a17, .ref a18, .ref a19]) s19 (.mk1 e19 rfl rfl rfl) rfl rfl
    have S19 := S18.trans s19
    clear L18 S18 e19 s19
    have l3 := S19 _ _ k2
    walk_at "go"
    rename_i m J n z e
    have f := z _ _ l3
    refine go_ext f e (by rw [z2]; exact Nat.le_of_ble_eq_true rfl) ?_
    generalize hG : upd J l _ = G3
    have M3 := ErL.ext (M2.same (S19.trans z)) (L19.same z) z2 f hG
    have U3 := same_setG (U2.trans (S19.trans z)) n0 hG
    have k3 := at_setG hG
    clear hG f n z e M2 U2 L19 S19 l3 k2
    obtain ⟨x3, y3, z3⟩ : ∃ xs, x2 ++ [V.ref a15, V.ref a16, V.ref a17, V.ref a18, V.ref a19] = xs ∧ xs.length = 20 := ⟨_, rfl, by rw [List.length_append, z2]; rfl⟩
    rw [y3] at k3 M3
    clear y3 z2
    walk_at "go"
    refine go_ev1r fun a20 H20 s20 e20 => ?_
    have L20 := (ErK.nil (cs := (xInvalidNumber :: xInvalidPhase :: xInvalidSign :: xInvalidPair :: xInvalidLength :: xInvalidClosed :: xInvalidAxis :: xInvalidName :: xInvalidPlace :: xInvalidKind :: xInvalidDirection :: xInvalidMove :: xInvalidEdges :: xInvalidBegins :: xInvalidEntry :: xInvalidReach :: xInvalidDistance :: xInvalidLooks :: xInvalidPlaces :: xInvalidWord :: xInvalidTarget :: xInvalidState :: xInvalidRule :: xInvalidTable :: xInvalidMap :: xInvalidPlan :: xInvalidGauge :: xInvalidClaim :: xInvalidCommand :: xInvalidRounds :: xInvalidStates :: xInvalidMoves :: xInvalidText :: xUnknownWord :: xCommandFailed :: xNotBalanced :: xOtherPlan :: xOtherMap :: xNoNeighbour :: xTooMany :: xDividedByZero :: xNothingToUndo :: [])) (H := G3) (a := a) (b := b) (n := 20)).put (k := 20) (ys := [.ref a20]) s20 (.mk1 e20 rfl rfl rfl) rfl rfl
    have S20 := s20
    clear e20 s20
    walk_at "go"
    refine go_ev1r fun a21 H21 s21 e21 => ?_
    have L21 := L20.put (k := 21) (ys := [.ref a20, .ref a21]) s21 (.mk1 e21 rfl rfl rfl) rfl rfl
    have S21 := S20.trans s21
    clear L20 S20 e21 s21
    walk_at "go"
    refine go_ev1r fun a22 H22 s22 e22 => ?_
    have L22 := L21.put (k := 22) (ys := [.ref a20, .ref a21, .ref a22]) s22 (.mk1 e22 rfl rfl rfl) rfl rfl
    have S22 := S21.trans s22
    clear L21 S21 e22 s22
    walk_at "go"
    refine go_ev1r fun a23 H23 s23 e23 => ?_
    have L23 := L22.put (k := 23) (ys := [.ref a20, .ref a21, .ref a22, .ref a23]) s23 (.mk1 e23 rfl rfl rfl) rfl rfl
    have S23 := S22.trans s23
    clear L22 S22 e23 s23
    walk_at "go"
    refine go_ev1r fun a24 H24 s24 e24 => ?_
    have L24 := L23.put (k := 24) (ys := [.ref a20, .ref a21, .ref a22, .ref a23, .ref a24]) s24 (.mk1 e24 rfl rfl rfl) rfl rfl
    have S24 := S23.trans s24
    clear L23 S23 e24 s24
    have l4 := S24 _ _ k3
    walk_at "go"
    rename_i m J n z e
    have f := z _ _ l4
    refine go_ext f e (by rw [z3]; exact Nat.le_of_ble_eq_true rfl) ?_
    generalize hG : upd J l _ = G4
    have M4 := ErL.ext (M3.same (S24.trans z)) (L24.same z) z3 f hG
    have U4 := same_setG (U3.trans (S24.trans z)) n0 hG
    have k4 := at_setG hG
    clear hG f n z e M3 U3 L24 S24 l4 k3
    obtain ⟨x4, y4, z4⟩ : ∃ xs, x3 ++ [V.ref a20, V.ref a21, V.ref a22, V.ref a23, V.ref a24] = xs ∧ xs.length = 25 := ⟨_, rfl, by rw [List.length_append, z3]; rfl⟩
    rw [y4] at k4 M4
    clear y4 z3
    walk_at "go"
    refine go_ev1r fun a25 H25 s25 e25 => ?_
    have L25 := (ErK.nil (cs := (xInvalidNumber :: xInvalidPhase :: xInvalidSign :: xInvalidPair :: xInvalidLength :: xInvalidClosed :: xInvalidAxis :: xInvalidName :: xInvalidPlace :: xInvalidKind :: xInvalidDirection :: xInvalidMove :: xInvalidEdges :: xInvalidBegins :: xInvalidEntry :: xInvalidReach :: xInvalidDistance :: xInvalidLooks :: xInvalidPlaces :: xInvalidWord :: xInvalidTarget :: xInvalidState :: xInvalidRule :: xInvalidTable :: xInvalidMap :: xInvalidPlan :: xInvalidGauge :: xInvalidClaim :: xInvalidCommand :: xInvalidRounds :: xInvalidStates :: xInvalidMoves :: xInvalidText :: xUnknownWord :: xCommandFailed :: xNotBalanced :: xOtherPlan :: xOtherMap :: xNoNeighbour :: xTooMany :: xDividedByZero :: xNothingToUndo :: [])) (H := G4) (a := a) (b := b) (n := 25)).put (k := 25) (ys := [.ref a25]) s25 (.mk1 e25 rfl rfl rfl) rfl rfl
    have S25 := s25
    clear e25 s25
    walk_at "go"
    refine go_ev1r fun a26 H26 s26 e26 => ?_
    have L26 := L25.put (k := 26) (ys := [.ref a25, .ref a26]) s26 (.mk1 e26 rfl rfl rfl) rfl rfl
    have S26 := S25.trans s26
    clear L25 S25 e26 s26
    walk_at "go"
    refine go_ev1r fun a27 H27 s27 e27 => ?_
    have L27 := L26.put (k := 27) (ys := [.ref a25, .ref a26, .ref a27]) s27 (.mk1 e27 rfl rfl rfl) rfl rfl
    have S27 := S26.trans s27
    clear L26 S26 e27 s27
    walk_at "go"
    refine go_ev1r fun a28 H28 s28 e28 => ?_
    have L28 := L27.put (k := 28) (ys := [.ref a25, .ref a26, .ref a27, .ref a28]) s28 (.mk1 e28 rfl rfl rfl) rfl rfl
    have S28 := S27.trans s28
    clear L27 S27 e28 s28
    walk_at "go"
    refine go_ev1r fun a29 H29 s29 e29 => ?_
    have L29 := L28.put (k := 29) (ys := [.ref a25, .ref a26, .ref a27, .ref a28, .ref a29]) s29 (.mk1 e29 rfl rfl rfl) rfl rfl
    have S29 := S28.trans s29
    clear L28 S28 e29 s29
    have l5 := S29 _ _ k4
    walk_at "go"
    rename_i m J n z e
    have f := z _ _ l5
    refine go_ext f e (by rw [z4]; exact Nat.le_of_ble_eq_true rfl) ?_
    generalize hG : upd J l _ = G5
    have M5 := ErL.ext (M4.same (S29.trans z)) (L29.same z) z4 f hG
    have U5 := same_setG (U4.trans (S29.trans z)) n0 hG
    have k5 := at_setG hG
    clear hG f n z e M4 U4 L29 S29 l5 k4
    obtain ⟨x5, y5, z5⟩ : ∃ xs, x4 ++ [V.ref a25, V.ref a26, V.ref a27, V.ref a28, V.ref a29] = xs ∧ xs.length = 30 := ⟨_, rfl, by rw [List.length_append, z4]; rfl⟩
    rw [y5] at k5 M5
    clear y5 z4
    walk_at "go"
    refine go_ev1r fun a30 H30 s30 e30 => ?_
    have L30 := (ErK.nil (cs := (xInvalidNumber :: xInvalidPhase :: xInvalidSign :: xInvalidPair :: xInvalidLength :: xInvalidClosed :: xInvalidAxis :: xInvalidName :: xInvalidPlace :: xInvalidKind :: xInvalidDirection :: xInvalidMove :: xInvalidEdges :: xInvalidBegins :: xInvalidEntry :: xInvalidReach :: xInvalidDistance :: xInvalidLooks :: xInvalidPlaces :: xInvalidWord :: xInvalidTarget :: xInvalidState :: xInvalidRule :: xInvalidTable :: xInvalidMap :: xInvalidPlan :: xInvalidGauge :: xInvalidClaim :: xInvalidCommand :: xInvalidRounds :: xInvalidStates :: xInvalidMoves :: xInvalidText :: xUnknownWord :: xCommandFailed :: xNotBalanced :: xOtherPlan :: xOtherMap :: xNoNeighbour :: xTooMany :: xDividedByZero :: xNothingToUndo :: [])) (H := G5) (a := a) (b := b) (n := 30)).put (k := 30) (ys := [.ref a30]) s30 (.mk1 e30 rfl rfl rfl) rfl rfl
    have S30 := s30
    clear e30 s30
    walk_at "go"
    refine go_ev1r fun a31 H31 s31 e31 => ?_
    have L31 := L30.put (k := 31) (ys := [.ref a30, .ref a31]) s31 (.mk1 e31 rfl rfl rfl) rfl rfl
    have S31 := S30.trans s31
    clear L30 S30 e31 s31
    walk_at "go"
    refine go_ev1r fun a32 H32 s32 e32 => ?_
    have L32 := L31.put (k := 32) (ys := [.ref a30, .ref a31, .ref a32]) s32 (.mk1 e32 rfl rfl rfl) rfl rfl
    have S32 := S31.trans s32
    clear L31 S31 e32 s32
    walk_at "go"
    refine go_ev1r fun a33 H33 s33 e33 => ?_
    have L33 := L32.put (k := 33) (ys := [.ref a30, .ref a31, .ref a32, .ref a33]) s33 (.mk1 e33 rfl rfl rfl) rfl rfl
    have S33 := S32.trans s33
    clear L32 S32 e33 s33
    walk_at "go"
    refine go_ev1r fun a34 H34 s34 e34 => ?_
    have L34 := L33.put (k := 34) (ys := [.ref a30, .ref a31, .ref a32, .ref a33, .ref a34]) s34 (.mk1 e34 rfl rfl rfl) rfl rfl
    have S34 := S33.trans s34
    clear L33 S33 e34 s34
    have l6 := S34 _ _ k5
    walk_at "go"
    rename_i m J n z e
    have f := z _ _ l6
    refine go_ext f e (by rw [z5]; exact Nat.le_of_ble_eq_true rfl) ?_
    generalize hG : upd J l _ = G6
    have M6 := ErL.ext (M5.same (S34.trans z)) (L34.same z) z5 f hG
    have U6 := same_setG (U5.trans (S34.trans z)) n0 hG
    have k6 := at_setG hG
    clear hG f n z e M5 U5 L34 S34 l6 k5
    obtain ⟨x6, y6, z6⟩ : ∃ xs, x5 ++ [V.ref a30, V.ref a31, V.ref a32, V.ref a33, V.ref a34] = xs ∧ xs.length = 35 := ⟨_, rfl, by rw [List.length_append, z5]; rfl⟩
    rw [y6] at k6 M6
    clear y6 z5
    walk_at "go"
    refine go_ev2r fun a35 H35 s35 e35 => ?_
    have L35 := (ErK.nil (cs := (xInvalidNumber :: xInvalidPhase :: xInvalidSign :: xInvalidPair :: xInvalidLength :: xInvalidClosed :: xInvalidAxis :: xInvalidName :: xInvalidPlace :: xInvalidKind :: xInvalidDirection :: xInvalidMove :: xInvalidEdges :: xInvalidBegins :: xInvalidEntry :: xInvalidReach :: xInvalidDistance :: xInvalidLooks :: xInvalidPlaces :: xInvalidWord :: xInvalidTarget :: xInvalidState :: xInvalidRule :: xInvalidTable :: xInvalidMap :: xInvalidPlan :: xInvalidGauge :: xInvalidClaim :: xInvalidCommand :: xInvalidRounds :: xInvalidStates :: xInvalidMoves :: xInvalidText :: xUnknownWord :: xCommandFailed :: xNotBalanced :: xOtherPlan :: xOtherMap :: xNoNeighbour :: xTooMany :: xDividedByZero :: xNothingToUndo :: [])) (H := G6) (a := a) (b := b) (n := 35)).put (k := 35) (ys := [.ref a35]) s35 (.mk1 e35 rfl rfl rfl) rfl rfl
    have S35 := s35
    clear e35 s35
    walk_at "go"
    refine go_ev2r fun a36 H36 s36 e36 => ?_
    have L36 := L35.put (k := 36) (ys := [.ref a35, .ref a36]) s36 (.mk1 e36 rfl rfl rfl) rfl rfl
    have S36 := S35.trans s36
    clear L35 S35 e36 s36
    walk_at "go"
    refine go_ev2r fun a37 H37 s37 e37 => ?_
    have L37 := L36.put (k := 37) (ys := [.ref a35, .ref a36, .ref a37]) s37 (.mk1 e37 rfl rfl rfl) rfl rfl
    have S37 := S36.trans s37
    clear L36 S36 e37 s37
    walk_at "go"
    refine go_ev2r fun a38 H38 s38 e38 => ?_
    have L38 := L37.put (k := 38) (ys := [.ref a35, .ref a36, .ref a37, .ref a38]) s38 (.mk1 e38 rfl rfl rfl) rfl rfl
    have S38 := S37.trans s38
    clear L37 S37 e38 s38
    walk_at "go"
    refine go_ev2r fun a39 H39 s39 e39 => ?_
    have L39 := L38.put (k := 39) (ys := [.ref a35, .ref a36, .ref a37, .ref a38, .ref a39]) s39 (.mk1 e39 rfl rfl rfl) rfl rfl
    have S39 := S38.trans s39
    clear L38 S38 e39 s39
    have l7 := S39 _ _ k6
    walk_at "go"
    rename_i m J n z e
    have f := z _ _ l7
    refine go_ext f e (by rw [z6]; exact Nat.le_of_ble_eq_true rfl) ?_
    generalize hG : upd J l _ = G7
    have M7 := ErL.ext (M6.same (S39.trans z)) (L39.same z) z6 f hG
    have U7 := same_setG (U6.trans (S39.trans z)) n0 hG
    have k7 := at_setG hG
    clear hG f n z e M6 U6 L39 S39 l7 k6
    obtain ⟨x7, y7, z7⟩ : ∃ xs, x6 ++ [V.ref a35, V.ref a36, V.ref a37, V.ref a38, V.ref a39] = xs ∧ xs.length = 40 := ⟨_, rfl, by rw [List.length_append, z6]; rfl⟩
    rw [y7] at k7 M7
    clear y7 z6
    walk_at "go"
    refine go_ev0 fun a40 H40 s40 e40 => ?_
    have L40 := (ErK.nil (cs := (xInvalidNumber :: xInvalidPhase :: xInvalidSign :: xInvalidPair :: xInvalidLength :: xInvalidClosed :: xInvalidAxis :: xInvalidName :: xInvalidPlace :: xInvalidKind :: xInvalidDirection :: xInvalidMove :: xInvalidEdges :: xInvalidBegins :: xInvalidEntry :: xInvalidReach :: xInvalidDistance :: xInvalidLooks :: xInvalidPlaces :: xInvalidWord :: xInvalidTarget :: xInvalidState :: xInvalidRule :: xInvalidTable :: xInvalidMap :: xInvalidPlan :: xInvalidGauge :: xInvalidClaim :: xInvalidCommand :: xInvalidRounds :: xInvalidStates :: xInvalidMoves :: xInvalidText :: xUnknownWord :: xCommandFailed :: xNotBalanced :: xOtherPlan :: xOtherMap :: xNoNeighbour :: xTooMany :: xDividedByZero :: xNothingToUndo :: [])) (H := G7) (a := a) (b := b) (n := 40)).put (k := 40) (ys := [.ref a40]) s40 (.mk0 e40 rfl rfl) rfl rfl
    have S40 := s40
    clear e40 s40
    walk_at "go"
    refine go_ev0 fun a41 H41 s41 e41 => ?_
    have L41 := L40.put (k := 41) (ys := [.ref a40, .ref a41]) s41 (.mk0 e41 rfl rfl) rfl rfl
    have S41 := S40.trans s41
    clear L40 S40 e41 s41
    have l8 := S41 _ _ k7
    walk_at "go"
    rename_i m J n z e
    have f := z _ _ l8
    refine go_ext f e (by rw [z7]; exact Nat.le_of_ble_eq_true rfl) ?_
    generalize hG : upd J l _ = G8
    have M8 := ErL.ext (M7.same (S41.trans z)) (L41.same z) z7 f hG
    have U8 := same_setG (U7.trans (S41.trans z)) n0 hG
    have k8 := at_setG hG
    clear hG f n z e M7 U7 L41 S41 l8 k7
    obtain ⟨x8, y8, z8⟩ : ∃ xs, x7 ++ [V.ref a40, V.ref a41] = xs ∧ xs.length = 42 := ⟨_, rfl, by rw [List.length_append, z7]; rfl⟩
    rw [y8] at k8 M8
    clear y8 z7
    walk_at "go"
    exact q _ _ _ U8 k8 z8 M8
end
end T
set_option Elab.async false
set_option maxRecDepth 100000
set_option maxHeartbeats 4000000
namespace T
open PySem L2 Mv
abbrev s_named : Stmt := top 52
theorem sc_named : FnScope ["_law_a", "_law_b", "_law_found"] ["_law_a", "_law_b"] (defScope s_named) := ⟨rfl, rfl, rfl, by decide +kernel, rfl, by decide +kernel, by decide +kernel⟩
section
variable {P : Program} {w : World} {K : PySem.W.Frag} {mg : Str → Option Value} {base : Heap} {xInvalidNumber xInvalidPhase xInvalidSign xInvalidPair xInvalidLength xInvalidClosed xInvalidAxis xInvalidName xInvalidPlace xInvalidKind xInvalidDirection xInvalidMove xInvalidEdges xInvalidBegins xInvalidEntry xInvalidReach xInvalidDistance xInvalidLooks xInvalidPlaces xInvalidWord xInvalidTarget xInvalidState xInvalidRule xInvalidTable xInvalidMap xInvalidPlan xInvalidGauge xInvalidClaim xInvalidCommand xInvalidRounds xInvalidStates xInvalidMoves xInvalidText xUnknownWord xCommandFailed xNotBalanced xOtherPlan xOtherMap xNoNeighbour xTooMany xDividedByZero xNothingToUndo xCellError xMissingError xStateError xLimitError : Addr}
local macro_rules | `(tactic| tb_rel) => `(tactic| repeat (first
  | with_reducible assumption
  | with_reducible exact Dp.int _
  | with_reducible exact Dp.str _
  | with_reducible exact Dp.bl _
  | with_reducible exact Dp.non
  | (with_reducible apply SqT.of; with_reducible assumption)
  | (with_reducible apply SqL.of; with_reducible assumption)
  | (with_reducible apply up_dp; with_reducible assumption)
  | (with_reducible apply up_sqt; with_reducible assumption)
  | (with_reducible apply up_sql; with_reducible assumption)
  | (with_reducible apply up_get; with_reducible assumption)
  | (with_reducible apply up_pot; with_reducible assumption)
  | with_reducible exact Same.refl _
  | with_reducible exact Bu.refl _ _
  | (with_reducible apply up_same; with_reducible assumption)
  | (with_reducible apply up_bu; with_reducible assumption)
  | (with_reducible apply bu_bu; with_reducible assumption)
  | (with_reducible apply free_of; with_reducible assumption)
  | (with_reducible apply mi_fr; with_reducible assumption; (focus (tb_rel; done)))
  | (with_reducible apply mi_dp; with_reducible assumption)
  | (with_reducible apply mi_sqt; with_reducible assumption)
  | (with_reducible apply mi_sql; with_reducible assumption)
  | (with_reducible apply mi_gett; with_reducible assumption)
  | (with_reducible apply mi_getl; with_reducible assumption)
  | (with_reducible apply mi_pot; with_reducible assumption)
  | (with_reducible apply mi_refl; with_reducible assumption; (focus (with_unfolding_all exact rfl)))
  | (with_reducible apply up_mi; with_reducible assumption)
  | (with_reducible apply mi_mi; with_reducible assumption)
  | (with_reducible apply mi_bu; with_reducible assumption)
  | (with_reducible apply bu_gett; with_reducible assumption; (focus (tb_rel; done)))
  | (with_reducible apply bu_geti; with_reducible assumption; (focus (tb_rel; done)))
  | (with_reducible apply bu_get; with_reducible assumption; (focus (tlg_ne; done)))
  | (with_reducible apply bu_sqt; with_reducible assumption; (focus (tb_rel; done)))
  | (with_reducible apply bu_sql; with_reducible assumption; (focus (tlg_ne; done)))
  | (with_reducible apply bu_dp; with_reducible assumption; (focus (tb_rel; done)); (focus (lcg_src; done)))
  | fail "up"))
local macro_rules | `(tactic| tlg_ne) => `(tactic| first
  | with_reducible assumption
  | (with_reducible apply pot_ne; with_reducible assumption; (focus (tb_rel; done)))
  | fail "ne")
local macro_rules | `(tactic| lcg_src) => `(tactic| first
  | with_reducible assumption
  | with_unfolding_all exact rfl
  | with_unfolding_all decide
  | with_unfolding_all exact Nat.ne_of_beq_eq_false rfl
  | (apply_assumption; done)
  | omega
  | (simp; done)
  | (simp; omega)
  | fail "sd")
local macro_rules | `(tactic| lcg_sub) => `(tactic| first
  | (unfold sizeLine; omega)
  | (simp only [List.length_cons, List.length_nil, List.length_append, List.length_map, List.length_replicate, List.length_take, List.length_drop]; unfold sizeLine; omega)
  | (simp; unfold sizeLine; omega)
  | fail "sz")
local macro_rules | `(tactic| nest_cls) => `(tactic| first
  | (tb_rel; done)
  | (with_reducible apply nmI; (focus (tb_rel; done)))
  | (with_reducible apply d_tup; (focus (tb_rel; done)); (focus (lsm_bools; done)))
  | (with_reducible apply d_lst; (focus (tb_rel; done)); (focus (lsm_bools; done)))
  | fail "dp")
local macro_rules | `(tactic| lsm_bools) => `(tactic| repeat (first
  | with_reducible exact DpAll.nil
  | with_reducible assumption
  | (with_reducible apply DpAll.cons; (focus (nest_cls; done)))
  | fail "dpa"))
local macro_rules | `(tactic| none_booked) => `(tactic| first | with_unfolding_all exact rfl | (with_reducible apply atI_nat; with_reducible assumption) | fail "ix")
local macro_rules | `(tactic| walk_at "go") => `(tactic| repeat (first
  | (focus (with_reducible refine go_var (v := ?_) ?_ ?_; rotate_left; (focus (with_unfolding_all exact rfl))))
  | with_reducible refine go_seq ?_
  | with_reducible refine go_cN ?_
  | with_reducible refine go_c ?_
  | with_reducible refine go_op ?_
  | with_reducible refine go_nil ?_
  | with_reducible refine go_cons ?_
  | with_reducible refine go_cb ?_
  | with_reducible refine go_call0 ?_
  | with_reducible refine go_asg ?_
  | (focus (with_reducible refine go_gname (σ' := ?_) ?_ ?_; rotate_left; (focus (simp only [List.set_cons_succ, List.set_cons_zero]; exact rfl))))
  | with_reducible refine go_par ?_
  | with_reducible refine go_par3 ?_
  | (focus (with_reducible refine go_par3k (σ' := ?_) ?_ ?_; rotate_left; (focus (simp only [List.set_cons_succ, List.set_cons_zero]; exact rfl))))
  | with_reducible refine go_bm ?_
  | (with_reducible apply go_bmL; (focus (tb_rel; done)))
  | (with_reducible apply go_fdX; (focus (with_reducible assumption; done)))
  | (with_reducible apply go_rI; (focus (with_reducible assumption; done)))
  | (focus (with_reducible refine go_par2 (σ' := ?_) ?_ ?_; rotate_left; (focus (simp only [List.set_cons_succ, List.set_cons_zero]; exact rfl))))
  | with_reducible refine go_ifs ?_
  | with_reducible refine go_test ?_
  | with_reducible refine go_tb ?_
  | with_reducible refine go_asb ?_
  | with_reducible refine go_asi ?_
  | with_reducible refine go_ret ?_
  | with_reducible refine go_retn ?_
  | with_reducible refine go_drop ?_
  | with_reducible refine go_next ?_
  | with_reducible refine go_and ?_
  | with_reducible refine go_or ?_
  | with_reducible refine go_not ?_
  | with_reducible refine go_andv ?_
  | with_reducible refine go_orv ?_
  | with_reducible refine go_notv ?_
  | with_reducible refine go_ife ?_
  | with_reducible refine go_chain ?_
  | with_reducible refine go_if1 ?_
  | with_reducible refine go_if0 ?_
  | with_reducible refine go_ifn1 ?_
  | with_reducible refine go_ifn0 ?_
  | (with_reducible apply go_ift; (focus (first | with_reducible rfl | with_reducible assumption | omega)))
  | (with_reducible apply go_ifnt; (focus (first | with_reducible rfl | with_reducible assumption | omega)))
  | (with_reducible apply go_iff; (focus (first | with_reducible assumption | omega)))
  | (with_reducible apply go_ifnf; (focus (first | with_reducible assumption | omega)))
  | with_reducible refine go_un ?_
  | with_reducible refine go_tup ?_
  | with_reducible refine go_lst ?_
  | (with_reducible apply go_newt; (focus (lcg_sub; done)); intros)
  | (with_reducible apply go_newl; (focus (lcg_sub; done)); intros)
  | with_reducible refine go_meth ?_
  | with_reducible refine go_for ?_
  | with_reducible refine go_lc ?_
  | with_reducible refine go_irng1 ?_
  | with_reducible refine go_irng2 ?_
  | with_reducible refine go_ilist ?_
  | with_reducible refine go_itup ?_
  | with_reducible refine go_izip ?_
  | with_reducible refine go_ienum ?_
  | (with_reducible apply go_rg1; (focus (lcg_src; done)))
  | (with_reducible apply go_rg2; (focus (lcg_src; done)); (focus (lcg_src; done)))
  | (with_reducible apply go_lsr; (focus (tb_rel; done)))
  | (with_reducible apply go_tpr; (focus (tb_rel; done)))
  | (with_reducible apply go_zpr; (focus (tb_rel; done)); (focus (tb_rel; done)))
  | (with_reducible apply go_zprT; (focus (tb_rel; done)); (focus (tb_rel; done)))
  | (with_reducible apply go_enrL; (focus (tb_rel; done)))
  | (with_reducible apply go_enrT; (focus (tb_rel; done)))
  | with_reducible refine go_prop ?_
  | with_reducible refine go_knr0 ?_
  | (with_reducible apply go_knr; (focus (with_unfolding_all exact rfl; done)); (focus (simp only [kSw2, kRev3, kId, List.nil_append, List.cons_append]; exact rfl)))
  | with_reducible refine go_mkn ?_
  | (with_reducible apply go_mkr; (focus (tb_rel; done)); (focus (with_unfolding_all exact rfl; done)))
  | with_reducible refine go_fld ?_
  | (with_reducible apply go_flr; (focus (tb_rel; done)); (focus (with_reducible assumption; done)); (focus (with_reducible assumption; done)); (focus (with_unfolding_all exact rfl; done)))
  | (with_reducible apply go_prr; (focus (tb_rel; done)))
  | (with_reducible apply go_mer; (focus (tb_rel; done)); (focus (with_unfolding_all exact rfl; done)))
  | with_reducible refine go_sfld ?_
  | (with_reducible apply go_sfr; (focus (tb_rel; done)); (focus (with_reducible assumption; done)); (focus (with_reducible assumption; done)); (focus (with_unfolding_all exact Nat.le_of_ble_eq_true rfl; done)); (focus (with_unfolding_all exact rfl; done)); intros)
  | with_reducible refine go_revt ?_
  | with_reducible refine go_make0 ?_
  | (focus (with_reducible refine go_aug (x := ?_) ?_ ?_; rotate_left; (focus (with_unfolding_all exact rfl))))
  | (focus (with_reducible refine go_augk (σ' := ?_) ?_ ?_; rotate_left; (focus (simp only [List.set_cons_succ, List.set_cons_zero]; exact rfl))))
  | with_reducible refine go_min2 ?_
  | with_reducible refine go_int1 ?_
  | with_reducible refine go_max2 ?_
  | with_reducible refine go_intB ?_
  | with_reducible refine go_absN ?_
  | with_reducible refine go_isN ?_
  | with_reducible refine go_notN ?_
  | (with_reducible apply go_rvt; (focus (tb_rel; done)); (focus (simp only [List.reverse_cons, List.reverse_nil, List.nil_append, List.cons_append]; exact rfl)); intros)
  | (with_reducible apply go_reprNm; (focus (tb_rel; done)); (focus (with_reducible assumption; done)))
  | (with_reducible apply go_reprPr; (focus (nest_cls; done)); (focus (lcg_src; done)); (focus (lcg_src; done)))
  | with_reducible refine go_sl ?_
  | with_reducible refine go_part ?_
  | with_reducible refine go_nopart ?_
  | (with_reducible apply go_gtup; (focus (tb_rel; done)); (focus (with_unfolding_all exact rfl; done)))
  | (with_reducible apply go_gunl; (focus (tb_rel; done)); (focus (with_unfolding_all exact rfl; done)))
  | with_reducible refine go_gcons ?_
  | with_reducible refine go_gnil ?_
  | with_reducible refine go_addN ?_
  | with_reducible refine go_ltN ?_
  | with_reducible refine go_leN ?_
  | with_reducible refine go_gtN ?_
  | with_reducible refine go_geN ?_
  | (with_reducible apply go_subN; (focus (omega; done)))
  | with_reducible refine go_rI0 ?_
  | (with_reducible apply go_mulN; (focus (omega; done)))
  | (with_reducible apply go_modN; (focus (omega; done)))
  | (with_reducible apply go_divN; (focus (omega; done)))
  | (with_reducible apply go_powN; (focus (with_unfolding_all decide; done)))
  | with_reducible refine go_rU ?_
  | with_reducible refine go_eqN ?_
  | with_reducible refine go_neN ?_
  | with_reducible refine go_isB ?_
  | with_reducible refine go_notB ?_
  | with_reducible refine go_eqS ?_
  | with_reducible refine go_neS ?_
  | with_reducible refine go_eqB ?_
  | with_reducible refine go_eqI ?_
  | with_reducible refine go_neI ?_
  | (with_reducible apply go_ixt; (focus (tb_rel; done)); (focus (none_booked; done)))
  | (with_reducible apply go_ixl; (focus (tb_rel; done)); (focus (none_booked; done)))
  | (with_reducible apply go_lent; (focus (tb_rel; done)))
  | (with_reducible apply go_lenNm; (focus (tb_rel; done)))
  | (with_reducible apply go_isiNm; (focus (tb_rel; done)))
  | (with_reducible apply go_lenl; (focus (tb_rel; done)))
  | (with_reducible apply go_catA; (focus (tb_rel; done)); (focus (tb_rel; done)); (focus (lcg_sub; done)); intros)
  | (with_reducible apply go_slaT; (focus (tb_rel; done)); intros)
  | (with_reducible apply go_slaD; (focus (tb_rel; done)); intros)
  | (with_reducible apply go_rep; (focus (tb_rel; done)); (focus (lcg_src; done)); intros)
  | (with_reducible apply go_tupofl; (focus (tb_rel; done)); intros)
  | (with_reducible apply go_sllT; (focus (tb_rel; done)); intros)
  | (with_reducible apply go_sllD; (focus (tb_rel; done)); intros)
  | (with_reducible apply go_cat; (focus (tb_rel; done)); (focus (tb_rel; done)); (focus (lcg_sub; done)); intros)
  | (with_reducible apply c_lall; intros)
  | with_reducible refine go_ev1 ?_
  | with_reducible refine go_ev2 ?_
  | with_reducible refine go_evk ?_
  | with_reducible refine go_evf ?_
  | fail "go"))
theorem ok_named {f : Addr} {fd : FuncData} (F : Df K "_law_named" "_law_named" s_named [] f fd) (B : Blt mg) (eInvalidNumber : Ev1 P w K mg base "InvalidNumber" xInvalidNumber "value") (eInvalidPhase : Ev1 P w K mg base "InvalidPhase" xInvalidPhase "value") (eInvalidSign : Ev1 P w K mg base "InvalidSign" xInvalidSign "value") (eInvalidPair : Ev1 P w K mg base "InvalidPair" xInvalidPair "value") (eInvalidLength : Ev1 P w K mg base "InvalidLength" xInvalidLength "value") (eInvalidClosed : Ev1 P w K mg base "InvalidClosed" xInvalidClosed "value") (eInvalidAxis : Ev1 P w K mg base "InvalidAxis" xInvalidAxis "value") (eInvalidName : Ev1 P w K mg base "InvalidName" xInvalidName "value") (eInvalidPlace : Ev1 P w K mg base "InvalidPlace" xInvalidPlace "value") (eInvalidKind : Ev1 P w K mg base "InvalidKind" xInvalidKind "value") (eInvalidDirection : Ev1 P w K mg base "InvalidDirection" xInvalidDirection "value") (eInvalidMove : Ev1 P w K mg base "InvalidMove" xInvalidMove "value") (eInvalidEdges : Ev1 P w K mg base "InvalidEdges" xInvalidEdges "value") (eInvalidBegins : Ev1 P w K mg base "InvalidBegins" xInvalidBegins "value") (eInvalidEntry : Ev1 P w K mg base "InvalidEntry" xInvalidEntry "value") (eInvalidReach : Ev1 P w K mg base "InvalidReach" xInvalidReach "value") (eInvalidDistance : Ev1 P w K mg base "InvalidDistance" xInvalidDistance "value") (eInvalidLooks : Ev1 P w K mg base "InvalidLooks" xInvalidLooks "value") (eInvalidPlaces : Ev1 P w K mg base "InvalidPlaces" xInvalidPlaces "value") (eInvalidWord : Ev1 P w K mg base "InvalidWord" xInvalidWord "value") (eInvalidTarget : Ev1 P w K mg base "InvalidTarget" xInvalidTarget "value") (eInvalidState : Ev1 P w K mg base "InvalidState" xInvalidState "value") (eInvalidRule : Ev1 P w K mg base "InvalidRule" xInvalidRule "value") (eInvalidTable : Ev1 P w K mg base "InvalidTable" xInvalidTable "value") (eInvalidMap : Ev1 P w K mg base "InvalidMap" xInvalidMap "value") (eInvalidPlan : Ev1 P w K mg base "InvalidPlan" xInvalidPlan "value") (eInvalidGauge : Ev1 P w K mg base "InvalidGauge" xInvalidGauge "value") (eInvalidClaim : Ev1 P w K mg base "InvalidClaim" xInvalidClaim "value") (eInvalidCommand : Ev1 P w K mg base "InvalidCommand" xInvalidCommand "value") (eInvalidRounds : Ev1 P w K mg base "InvalidRounds" xInvalidRounds "position") (eInvalidStates : Ev1 P w K mg base "InvalidStates" xInvalidStates "position") (eInvalidMoves : Ev1 P w K mg base "InvalidMoves" xInvalidMoves "position") (eInvalidText : Ev1 P w K mg base "InvalidText" xInvalidText "line") (eUnknownWord : Ev1 P w K mg base "UnknownWord" xUnknownWord "value") (eCommandFailed : Ev1 P w K mg base "CommandFailed" xCommandFailed "position") (eNotBalanced : Ev2 P w K mg base "NotBalanced" xNotBalanced "columns" "rows") (eOtherPlan : Ev2 P w K mg base "OtherPlan" xOtherPlan "one" "other") (eOtherMap : Ev2 P w K mg base "OtherMap" xOtherMap "one" "other") (eNoNeighbour : Ev2 P w K mg base "NoNeighbour" xNoNeighbour "value" "move") (eTooMany : Ev2 P w K mg base "TooMany" xTooMany "what" "limit") (eDividedByZero : Ev0 K mg "DividedByZero" xDividedByZero) (eNothingToUndo : Ev0 K mg "NothingToUndo" xNothingToUndo) : FnOk P w K mg base CX0 3 f fd ["_law_a", "_law_b"] (sp_lall (xInvalidNumber :: xInvalidPhase :: xInvalidSign :: xInvalidPair :: xInvalidLength :: xInvalidClosed :: xInvalidAxis :: xInvalidName :: xInvalidPlace :: xInvalidKind :: xInvalidDirection :: xInvalidMove :: xInvalidEdges :: xInvalidBegins :: xInvalidEntry :: xInvalidReach :: xInvalidDistance :: xInvalidLooks :: xInvalidPlaces :: xInvalidWord :: xInvalidTarget :: xInvalidState :: xInvalidRule :: xInvalidTable :: xInvalidMap :: xInvalidPlan :: xInvalidGauge :: xInvalidClaim :: xInvalidCommand :: xInvalidRounds :: xInvalidStates :: xInvalidMoves :: xInvalidText :: xUnknownWord :: xCommandFailed :: xNotBalanced :: xOtherPlan :: xOtherMap :: xNoNeighbour :: xTooMany :: xDividedByZero :: xNothingToUndo :: [])) := by
  refine dfOk F sc_named (fun vs H Q E h => ?_) (fun cdv A outer s H vs Q E hr h => ?_)
  · obtain ⟨a, b, rfl, _⟩ := h
    rfl
  · obtain ⟨a, b, rfl, q⟩ := h
    refine ⟨_, (pss_cons (ps_set (i := 2) sc_named.nd rfl (Or.inl rfl) (pe_lst (pa_cons (pe_evk1 eInvalidNumber hr (by decide) (by rfl) (pk_cons (pv 0) pk_nil)) (pa_cons (pe_evk1 eInvalidPhase hr (by decide) (by rfl) (pk_cons (pv 0) pk_nil)) (pa_cons (pe_evk1 eInvalidSign hr (by decide) (by rfl) (pk_cons (pv 0) pk_nil)) (pa_cons (pe_evk1 eInvalidPair hr (by decide) (by rfl) (pk_cons (pv 0) pk_nil)) pa_nil))))))
  (pss_cons (ps_expr (pe_bm' PySem.F.plainAttrs_list PySem.F.slot_list_extend PySem.F.type_list_extend mt_extend (pv 2) (pa_cons (pe_lst (pa_cons (pe_evk1 eInvalidLength hr (by decide) (by rfl) (pk_cons (pv 0) pk_nil)) (pa_cons (pe_evk1 eInvalidClosed hr (by decide) (by rfl) (pk_cons (pv 0) pk_nil)) (pa_cons (pe_evk1 eInvalidAxis hr (by decide) (by rfl) (pk_cons (pv 0) pk_nil)) (pa_cons (pe_evk1 eInvalidName hr (by decide) (by rfl) (pk_cons (pv 0) pk_nil)) pa_nil))))) pa_nil)))
  (pss_cons (ps_expr (pe_bm' PySem.F.plainAttrs_list PySem.F.slot_list_extend PySem.F.type_list_extend mt_extend (pv 2) (pa_cons (pe_lst (pa_cons (pe_evk1 eInvalidPlace hr (by decide) (by rfl) (pk_cons (pv 0) pk_nil)) (pa_cons (pe_evk1 eInvalidKind hr (by decide) (by rfl) (pk_cons (pv 0) pk_nil)) (pa_cons (pe_evk1 eInvalidDirection hr (by decide) (by rfl) (pk_cons (pv 0) pk_nil)) (pa_cons (pe_evk1 eInvalidMove hr (by decide) (by rfl) (pk_cons (pv 0) pk_nil)) pa_nil))))) pa_nil)))
  (pss_cons (ps_expr (pe_bm' PySem.F.plainAttrs_list PySem.F.slot_list_extend PySem.F.type_list_extend mt_extend (pv 2) (pa_cons (pe_lst (pa_cons (pe_evk1 eInvalidEdges hr (by decide) (by rfl) (pk_cons (pv 0) pk_nil)) (pa_cons (pe_evk1 eInvalidBegins hr (by decide) (by rfl) (pk_cons (pv 0) pk_nil)) (pa_cons (pe_evk1 eInvalidEntry hr (by decide) (by rfl) (pk_cons (pv 0) pk_nil)) (pa_cons (pe_evk1 eInvalidReach hr (by decide) (by rfl) (pk_cons (pv 0) pk_nil)) pa_nil))))) pa_nil)))
  (pss_cons (ps_expr (pe_bm' PySem.F.plainAttrs_list PySem.F.slot_list_extend PySem.F.type_list_extend mt_extend (pv 2) (pa_cons (pe_lst (pa_cons (pe_evk1 eInvalidDistance hr (by decide) (by rfl) (pk_cons (pv 0) pk_nil)) (pa_cons (pe_evk1 eInvalidLooks hr (by decide) (by rfl) (pk_cons (pv 0) pk_nil)) (pa_cons (pe_evk1 eInvalidPlaces hr (by decide) (by rfl) (pk_cons (pv 0) pk_nil)) (pa_cons (pe_evk1 eInvalidWord hr (by decide) (by rfl) (pk_cons (pv 0) pk_nil)) pa_nil))))) pa_nil)))
  (pss_cons (ps_expr (pe_bm' PySem.F.plainAttrs_list PySem.F.slot_list_extend PySem.F.type_list_extend mt_extend (pv 2) (pa_cons (pe_lst (pa_cons (pe_evk1 eInvalidTarget hr (by decide) (by rfl) (pk_cons (pv 0) pk_nil)) (pa_cons (pe_evk1 eInvalidState hr (by decide) (by rfl) (pk_cons (pv 0) pk_nil)) (pa_cons (pe_evk1 eInvalidRule hr (by decide) (by rfl) (pk_cons (pv 0) pk_nil)) (pa_cons (pe_evk1 eInvalidTable hr (by decide) (by rfl) (pk_cons (pv 0) pk_nil)) pa_nil))))) pa_nil)))
  (pss_cons (ps_expr (pe_bm' PySem.F.plainAttrs_list PySem.F.slot_list_extend PySem.F.type_list_extend mt_extend (pv 2) (pa_cons (pe_lst (pa_cons (pe_evk1 eInvalidMap hr (by decide) (by rfl) (pk_cons (pv 0) pk_nil)) (pa_cons (pe_evk1 eInvalidPlan hr (by decide) (by rfl) (pk_cons (pv 0) pk_nil)) (pa_cons (pe_evk1 eInvalidGauge hr (by decide) (by rfl) (pk_cons (pv 0) pk_nil)) (pa_cons (pe_evk1 eInvalidClaim hr (by decide) (by rfl) (pk_cons (pv 0) pk_nil)) pa_nil))))) pa_nil)))
  (pss_cons (ps_expr (pe_bm' PySem.F.plainAttrs_list PySem.F.slot_list_extend PySem.F.type_list_extend mt_extend (pv 2) (pa_cons (pe_lst (pa_cons (pe_evk1 eInvalidCommand hr (by decide) (by rfl) (pk_cons (pv 0) pk_nil)) (pa_cons (pe_evk1 eInvalidRounds hr (by decide) (by rfl) (pk_cons (pv 0) pk_nil)) (pa_cons (pe_evk1 eInvalidStates hr (by decide) (by rfl) (pk_cons (pv 0) pk_nil)) pa_nil)))) pa_nil)))
  (pss_cons (ps_expr (pe_bm' PySem.F.plainAttrs_list PySem.F.slot_list_extend PySem.F.type_list_extend mt_extend (pv 2) (pa_cons (pe_lst (pa_cons (pe_evk1 eInvalidMoves hr (by decide) (by rfl) (pk_cons (pv 0) pk_nil)) (pa_cons (pe_evk1 eInvalidText hr (by decide) (by rfl) (pk_cons (pv 0) pk_nil)) (pa_cons (pe_evk1 eUnknownWord hr (by decide) (by rfl) (pk_cons (pv 0) pk_nil)) (pa_cons (pe_evk1 eCommandFailed hr (by decide) (by rfl) (pk_cons (pv 0) pk_nil)) pa_nil))))) pa_nil)))
  (pss_cons (ps_expr (pe_bm' PySem.F.plainAttrs_list PySem.F.slot_list_extend PySem.F.type_list_extend mt_extend (pv 2) (pa_cons (pe_lst (pa_cons (pe_evk2 eNotBalanced hr (by decide) (by rfl) (pk_cons (pv 1) (pk_cons (pv 0) pk_nil))) (pa_cons (pe_evk2 eOtherPlan hr (by decide) (by rfl) (pk_cons (pv 1) (pk_cons (pv 0) pk_nil))) (pa_cons (pe_evk2 eOtherMap hr (by decide) (by rfl) (pk_cons (pv 1) (pk_cons (pv 0) pk_nil))) pa_nil)))) pa_nil)))
  (pss_cons (ps_expr (pe_bm' PySem.F.plainAttrs_list PySem.F.slot_list_extend PySem.F.type_list_extend mt_extend (pv 2) (pa_cons (pe_lst (pa_cons (pe_evk2 eNoNeighbour hr (by decide) (by rfl) (pk_cons (pv 1) (pk_cons (pv 0) pk_nil))) (pa_cons (pe_evk2 eTooMany hr (by decide) (by rfl) (pk_cons (pv 1) (pk_cons (pv 0) pk_nil))) (pa_cons (pe_ev0 eDividedByZero (by rfl)) (pa_cons (pe_ev0 eNothingToUndo (by rfl)) pa_nil))))) pa_nil)))
  (pss_one (ps_ret (pv 2)))))))))))))), ?_⟩
    refine go_start (σ := [some _, some _, none]) rfl ?_
    walk_at "go"
    refine go_ev1r fun a0 H0 s0 e0 => ?_
    have L0 := (ErK.nil (cs := (xInvalidNumber :: xInvalidPhase :: xInvalidSign :: xInvalidPair :: xInvalidLength :: xInvalidClosed :: xInvalidAxis :: xInvalidName :: xInvalidPlace :: xInvalidKind :: xInvalidDirection :: xInvalidMove :: xInvalidEdges :: xInvalidBegins :: xInvalidEntry :: xInvalidReach :: xInvalidDistance :: xInvalidLooks :: xInvalidPlaces :: xInvalidWord :: xInvalidTarget :: xInvalidState :: xInvalidRule :: xInvalidTable :: xInvalidMap :: xInvalidPlan :: xInvalidGauge :: xInvalidClaim :: xInvalidCommand :: xInvalidRounds :: xInvalidStates :: xInvalidMoves :: xInvalidText :: xUnknownWord :: xCommandFailed :: xNotBalanced :: xOtherPlan :: xOtherMap :: xNoNeighbour :: xTooMany :: xDividedByZero :: xNothingToUndo :: [])) (H := H) (a := a) (b := b) (n := 0)).put (k := 0) (ys := [.ref a0]) s0 (.mk1 e0 rfl rfl rfl) rfl rfl
    have S0 := s0
    clear e0 s0
    walk_at "go"
    refine go_ev1r fun a1 H1 s1 e1 => ?_
    have L1 := L0.put (k := 1) (ys := [.ref a0, .ref a1]) s1 (.mk1 e1 rfl rfl rfl) rfl rfl
    have S1 := S0.trans s1
    clear L0 S0 e1 s1
    walk_at "go"
    refine go_ev1r fun a2 H2 s2 e2 => ?_
    have L2 := L1.put (k := 2) (ys := [.ref a0, .ref a1, .ref a2]) s2 (.mk1 e2 rfl rfl rfl) rfl rfl
    have S2 := S1.trans s2
    clear L1 S1 e2 s2
    walk_at "go"
    refine go_ev1r fun a3 H3 s3 e3 => ?_
    have L3 := L2.put (k := 3) (ys := [.ref a0, .ref a1, .ref a2, .ref a3]) s3 (.mk1 e3 rfl rfl rfl) rfl rfl
    have S3 := S2.trans s3
    clear L2 S2 e3 s3
    walk_at "go"
    rename_i l G0 n z k0
    have M0 := ErL.of0 (L3.same z)
    have U0 := S3.trans z
    have n0 : H l = none := S3.free n
    clear n z L3 S3
    obtain ⟨x0, y0, z0⟩ : ∃ xs, [V.ref a0, V.ref a1, V.ref a2, V.ref a3] = xs ∧ xs.length = 4 := ⟨_, rfl, rfl⟩
    rw [y0] at k0 M0
    clear y0
    walk_at "go"
    refine go_ev1r fun a4 H4 s4 e4 => ?_
    have L4 := (ErK.nil (cs := (xInvalidNumber :: xInvalidPhase :: xInvalidSign :: xInvalidPair :: xInvalidLength :: xInvalidClosed :: xInvalidAxis :: xInvalidName :: xInvalidPlace :: xInvalidKind :: xInvalidDirection :: xInvalidMove :: xInvalidEdges :: xInvalidBegins :: xInvalidEntry :: xInvalidReach :: xInvalidDistance :: xInvalidLooks :: xInvalidPlaces :: xInvalidWord :: xInvalidTarget :: xInvalidState :: xInvalidRule :: xInvalidTable :: xInvalidMap :: xInvalidPlan :: xInvalidGauge :: xInvalidClaim :: xInvalidCommand :: xInvalidRounds :: xInvalidStates :: xInvalidMoves :: xInvalidText :: xUnknownWord :: xCommandFailed :: xNotBalanced :: xOtherPlan :: xOtherMap :: xNoNeighbour :: xTooMany :: xDividedByZero :: xNothingToUndo :: [])) (H := G0) (a := a) (b := b) (n := 4)).put (k := 4) (ys := [.ref a4]) s4 (.mk1 e4 rfl rfl rfl) rfl rfl
    have S4 := s4
    clear e4 s4
    walk_at "go"
    refine go_ev1r fun a5 H5 s5 e5 => ?_
    have L5 := L4.put (k := 5) (ys := [.ref a4, .ref a5]) s5 (.mk1 e5 rfl rfl rfl) rfl rfl
    have S5 := S4.trans s5
    clear L4 S4 e5 s5
    walk_at "go"
    refine go_ev1r fun a6 H6 s6 e6 => ?_
    have L6 := L5.put (k := 6) (ys := [.ref a4, .ref a5, .ref a6]) s6 (.mk1 e6 rfl rfl rfl) rfl rfl
    have S6 := S5.trans s6
    clear L5 S5 e6 s6
    walk_at "go"
    refine go_ev1r fun a7 H7 s7 e7 => ?_
    have L7 := L6.put (k := 7) (ys := [.ref a4, .ref a5, .ref a6, .ref a7]) s7 (.mk1 e7 rfl rfl rfl) rfl rfl
    have S7 := S6.trans s7
    clear L6 S6 e7 s7
    have l1 := S7 _ _ k0
    walk_at "go"
    rename_i m J n z e
    have f := z _ _ l1
    refine go_ext f e (by rw [z0]; exact Nat.le_of_ble_eq_true rfl) ?_
    generalize hG : upd J l _ = G1
    have M1 := ErL.ext (M0.same (S7.trans z)) (L7.same z) z0 f hG
    have U1 := same_setG (U0.trans (S7.trans z)) n0 hG
    have k1 := at_setG hG
    clear hG f n z e M0 U0 L7 S7 l1 k0
    obtain ⟨x1, y1, z1⟩ : ∃ xs, x0 ++ [V.ref a4, V.ref a5, V.ref a6, V.ref a7] = xs ∧ xs.length = 8 := ⟨_, rfl, by rw [List.length_append, z0]; rfl⟩
    rw [y1] at k1 M1
    clear y1 z0
    walk_at "go"
    refine go_ev1r fun a8 H8 s8 e8 => ?_
    have L8 := (ErK.nil (cs := (xInvalidNumber :: xInvalidPhase :: xInvalidSign :: xInvalidPair :: xInvalidLength :: xInvalidClosed :: xInvalidAxis :: xInvalidName :: xInvalidPlace :: xInvalidKind :: xInvalidDirection :: xInvalidMove :: xInvalidEdges :: xInvalidBegins :: xInvalidEntry :: xInvalidReach :: xInvalidDistance :: xInvalidLooks :: xInvalidPlaces :: xInvalidWord :: xInvalidTarget :: xInvalidState :: xInvalidRule :: xInvalidTable :: xInvalidMap :: xInvalidPlan :: xInvalidGauge :: xInvalidClaim :: xInvalidCommand :: xInvalidRounds :: xInvalidStates :: xInvalidMoves :: xInvalidText :: xUnknownWord :: xCommandFailed :: xNotBalanced :: xOtherPlan :: xOtherMap :: xNoNeighbour :: xTooMany :: xDividedByZero :: xNothingToUndo :: [])) (H := G1) (a := a) (b := b) (n := 8)).put (k := 8) (ys := [.ref a8]) s8 (.mk1 e8 rfl rfl rfl) rfl rfl
    have S8 := s8
    clear e8 s8
    walk_at "go"
    refine go_ev1r fun a9 H9 s9 e9 => ?_
    have L9 := L8.put (k := 9) (ys := [.ref a8, .ref a9]) s9 (.mk1 e9 rfl rfl rfl) rfl rfl
    have S9 := S8.trans s9
    clear L8 S8 e9 s9
    walk_at "go"
    refine go_ev1r fun a10 H10 s10 e10 => ?_
    have L10 := L9.put (k := 10) (ys := [.ref a8, .ref a9, .ref a10]) s10 (.mk1 e10 rfl rfl rfl) rfl rfl
    have S10 := S9.trans s10
    clear L9 S9 e10 s10
    walk_at "go"
    refine go_ev1r fun a11 H11 s11 e11 => ?_
    have L11 := L10.put (k := 11) (ys := [.ref a8, .ref a9, .ref a10, .ref a11]) s11 (.mk1 e11 rfl rfl rfl) rfl rfl
    have S11 := S10.trans s11
    clear L10 S10 e11 s11
    have l2 := S11 _ _ k1
    walk_at "go"
    rename_i m J n z e
    have f := z _ _ l2
    refine go_ext f e (by rw [z1]; exact Nat.le_of_ble_eq_true rfl) ?_
    generalize hG : upd J l _ = G2
    have M2 := ErL.ext (M1.same (S11.trans z)) (L11.same z) z1 f hG
    have U2 := same_setG (U1.trans (S11.trans z)) n0 hG
    have k2 := at_setG hG
    clear hG f n z e M1 U1 L11 S11 l2 k1
    obtain ⟨x2, y2, z2⟩ : ∃ xs, x1 ++ [V.ref a8, V.ref a9, V.ref a10, V.ref a11] = xs ∧ xs.length = 12 := ⟨_, rfl, by rw [List.length_append, z1]; rfl⟩
    rw [y2] at k2 M2
    clear y2 z1
    walk_at "go"
    refine go_ev1r fun a12 H12 s12 e12 => ?_
    have L12 := (ErK.nil (cs := (xInvalidNumber :: xInvalidPhase :: xInvalidSign :: xInvalidPair :: xInvalidLength :: xInvalidClosed :: xInvalidAxis :: xInvalidName :: xInvalidPlace :: xInvalidKind :: xInvalidDirection :: xInvalidMove :: xInvalidEdges :: xInvalidBegins :: xInvalidEntry :: xInvalidReach :: xInvalidDistance :: xInvalidLooks :: xInvalidPlaces :: xInvalidWord :: xInvalidTarget :: xInvalidState :: xInvalidRule :: xInvalidTable :: xInvalidMap :: xInvalidPlan :: xInvalidGauge :: xInvalidClaim :: xInvalidCommand :: xInvalidRounds :: xInvalidStates :: xInvalidMoves :: xInvalidText :: xUnknownWord :: xCommandFailed :: xNotBalanced :: xOtherPlan :: xOtherMap :: xNoNeighbour :: xTooMany :: xDividedByZero :: xNothingToUndo :: [])) (H := G2) (a := a) (b := b) (n := 12)).put (k := 12) (ys := [.ref a12]) s12 (.mk1 e12 rfl rfl rfl) rfl rfl
    have S12 := s12
    clear e12 s12
    walk_at "go"
    refine go_ev1r fun a13 H13 s13 e13 => ?_
    have L13 := L12.put (k := 13) (ys := [.ref a12, .ref a13]) s13 (.mk1 e13 rfl rfl rfl) rfl rfl
    have S13 := S12.trans s13
    clear L12 S12 e13 s13
    walk_at "go"
    refine go_ev1r fun a14 H14 s14 e14 => ?_
    have L14 := L13.put (k := 14) (ys := [.ref a12, .ref a13, .ref a14]) s14 (.mk1 e14 rfl rfl rfl) rfl rfl
    have S14 := S13.trans s14
    clear L13 S13 e14 s14
    walk_at "go"
    refine go_ev1r fun a15 H15 s15 e15 => ?_
    have L15 := L14.put (k := 15) (ys := [.ref a12, .ref a13, .ref a14, .ref a15]) s15 (.mk1 e15 rfl rfl rfl) rfl rfl
    have S15 := S14.trans s15
    clear L14 S14 e15 s15
    have l3 := S15 _ _ k2
    walk_at "go"
    rename_i m J n z e
    have f := z _ _ l3
    refine go_ext f e (by rw [z2]; exact Nat.le_of_ble_eq_true rfl) ?_
    generalize hG : upd J l _ = G3
    have M3 := ErL.ext (M2.same (S15.trans z)) (L15.same z) z2 f hG
    have U3 := same_setG (U2.trans (S15.trans z)) n0 hG
    have k3 := at_setG hG
    clear hG f n z e M2 U2 L15 S15 l3 k2
    obtain ⟨x3, y3, z3⟩ : ∃ xs, x2 ++ [V.ref a12, V.ref a13, V.ref a14, V.ref a15] = xs ∧ xs.length = 16 := ⟨_, rfl, by rw [List.length_append, z2]; rfl⟩
    rw [y3] at k3 M3
    clear y3 z2
    walk_at "go"
    refine go_ev1r fun a16 H16 s16 e16 => ?_
    have L16 := (ErK.nil (cs := (xInvalidNumber :: xInvalidPhase :: xInvalidSign :: xInvalidPair :: xInvalidLength :: xInvalidClosed :: xInvalidAxis :: xInvalidName :: xInvalidPlace :: xInvalidKind :: xInvalidDirection :: xInvalidMove :: xInvalidEdges :: xInvalidBegins :: xInvalidEntry :: xInvalidReach :: xInvalidDistance :: xInvalidLooks :: xInvalidPlaces :: xInvalidWord :: xInvalidTarget :: xInvalidState :: xInvalidRule :: xInvalidTable :: xInvalidMap :: xInvalidPlan :: xInvalidGauge :: xInvalidClaim :: xInvalidCommand :: xInvalidRounds :: xInvalidStates :: xInvalidMoves :: xInvalidText :: xUnknownWord :: xCommandFailed :: xNotBalanced :: xOtherPlan :: xOtherMap :: xNoNeighbour :: xTooMany :: xDividedByZero :: xNothingToUndo :: [])) (H := G3) (a := a) (b := b) (n := 16)).put (k := 16) (ys := [.ref a16]) s16 (.mk1 e16 rfl rfl rfl) rfl rfl
    have S16 := s16
    clear e16 s16
    walk_at "go"
    refine go_ev1r fun a17 H17 s17 e17 => ?_
    have L17 := L16.put (k := 17) (ys := [.ref a16, .ref a17]) s17 (.mk1 e17 rfl rfl rfl) rfl rfl
    have S17 := S16.trans s17
    clear L16 S16 e17 s17
    walk_at "go"
    refine go_ev1r fun a18 H18 s18 e18 => ?_
    have L18 := L17.put (k := 18) (ys := [.ref a16, .ref a17, .ref a18]) s18 (.mk1 e18 rfl rfl rfl) rfl rfl
    have S18 := S17.trans s18
    clear L17 S17 e18 s18
    walk_at "go"
    refine go_ev1r fun a19 H19 s19 e19 => ?_
    have L19 := L18.put (k := 19) (ys := [.ref a16, .ref a17, .ref a18, .ref a19]) s19 (.mk1 e19 rfl rfl rfl) rfl rfl
    have S19 := S18.trans s19
    clear L18 S18 e19 s19
    have l4 := S19 _ _ k3
    walk_at "go"
    rename_i m J n z e
    have f := z _ _ l4
    refine go_ext f e (by rw [z3]; exact Nat.le_of_ble_eq_true rfl) ?_
    generalize hG : upd J l _ = G4
    have M4 := ErL.ext (M3.same (S19.trans z)) (L19.same z) z3 f hG
    have U4 := same_setG (U3.trans (S19.trans z)) n0 hG
    have k4 := at_setG hG
    clear hG f n z e M3 U3 L19 S19 l4 k3
    obtain ⟨x4, y4, z4⟩ : ∃ xs, x3 ++ [V.ref a16, V.ref a17, V.ref a18, V.ref a19] = xs ∧ xs.length = 20 := ⟨_, rfl, by rw [List.length_append, z3]; rfl⟩
    rw [y4] at k4 M4
    clear y4 z3
    walk_at "go"
    refine go_ev1r fun a20 H20 s20 e20 => ?_
    have L20 := (ErK.nil (cs := (xInvalidNumber :: xInvalidPhase :: xInvalidSign :: xInvalidPair :: xInvalidLength :: xInvalidClosed :: xInvalidAxis :: xInvalidName :: xInvalidPlace :: xInvalidKind :: xInvalidDirection :: xInvalidMove :: xInvalidEdges :: xInvalidBegins :: xInvalidEntry :: xInvalidReach :: xInvalidDistance :: xInvalidLooks :: xInvalidPlaces :: xInvalidWord :: xInvalidTarget :: xInvalidState :: xInvalidRule :: xInvalidTable :: xInvalidMap :: xInvalidPlan :: xInvalidGauge :: xInvalidClaim :: xInvalidCommand :: xInvalidRounds :: xInvalidStates :: xInvalidMoves :: xInvalidText :: xUnknownWord :: xCommandFailed :: xNotBalanced :: xOtherPlan :: xOtherMap :: xNoNeighbour :: xTooMany :: xDividedByZero :: xNothingToUndo :: [])) (H := G4) (a := a) (b := b) (n := 20)).put (k := 20) (ys := [.ref a20]) s20 (.mk1 e20 rfl rfl rfl) rfl rfl
    have S20 := s20
    clear e20 s20
    walk_at "go"
    refine go_ev1r fun a21 H21 s21 e21 => ?_
    have L21 := L20.put (k := 21) (ys := [.ref a20, .ref a21]) s21 (.mk1 e21 rfl rfl rfl) rfl rfl
    have S21 := S20.trans s21
    clear L20 S20 e21 s21
    walk_at "go"
    refine go_ev1r fun a22 H22 s22 e22 => ?_
    have L22 := L21.put (k := 22) (ys := [.ref a20, .ref a21, .ref a22]) s22 (.mk1 e22 rfl rfl rfl) rfl rfl
    have S22 := S21.trans s22
    clear L21 S21 e22 s22
    walk_at "go"
    refine go_ev1r fun a23 H23 s23 e23 => ?_
    have L23 := L22.put (k := 23) (ys := [.ref a20, .ref a21, .ref a22, .ref a23]) s23 (.mk1 e23 rfl rfl rfl) rfl rfl
    have S23 := S22.trans s23
    clear L22 S22 e23 s23
    have l5 := S23 _ _ k4
    walk_at "go"
    rename_i m J n z e
    have f := z _ _ l5
    refine go_ext f e (by rw [z4]; exact Nat.le_of_ble_eq_true rfl) ?_
    generalize hG : upd J l _ = G5
    have M5 := ErL.ext (M4.same (S23.trans z)) (L23.same z) z4 f hG
    have U5 := same_setG (U4.trans (S23.trans z)) n0 hG
    have k5 := at_setG hG
    clear hG f n z e M4 U4 L23 S23 l5 k4
    obtain ⟨x5, y5, z5⟩ : ∃ xs, x4 ++ [V.ref a20, V.ref a21, V.ref a22, V.ref a23] = xs ∧ xs.length = 24 := ⟨_, rfl, by rw [List.length_append, z4]; rfl⟩
    rw [y5] at k5 M5
    clear y5 z4
    walk_at "go"
    refine go_ev1r fun a24 H24 s24 e24 => ?_
    have L24 := (ErK.nil (cs := (xInvalidNumber :: xInvalidPhase :: xInvalidSign :: xInvalidPair :: xInvalidLength :: xInvalidClosed :: xInvalidAxis :: xInvalidName :: xInvalidPlace :: xInvalidKind :: xInvalidDirection :: xInvalidMove :: xInvalidEdges :: xInvalidBegins :: xInvalidEntry :: xInvalidReach :: xInvalidDistance :: xInvalidLooks :: xInvalidPlaces :: xInvalidWord :: xInvalidTarget :: xInvalidState :: xInvalidRule :: xInvalidTable :: xInvalidMap :: xInvalidPlan :: xInvalidGauge :: xInvalidClaim :: xInvalidCommand :: xInvalidRounds :: xInvalidStates :: xInvalidMoves :: xInvalidText :: xUnknownWord :: xCommandFailed :: xNotBalanced :: xOtherPlan :: xOtherMap :: xNoNeighbour :: xTooMany :: xDividedByZero :: xNothingToUndo :: [])) (H := G5) (a := a) (b := b) (n := 24)).put (k := 24) (ys := [.ref a24]) s24 (.mk1 e24 rfl rfl rfl) rfl rfl
    have S24 := s24
    clear e24 s24
    walk_at "go"
    refine go_ev1r fun a25 H25 s25 e25 => ?_
    have L25 := L24.put (k := 25) (ys := [.ref a24, .ref a25]) s25 (.mk1 e25 rfl rfl rfl) rfl rfl
    have S25 := S24.trans s25
    clear L24 S24 e25 s25
    walk_at "go"
    refine go_ev1r fun a26 H26 s26 e26 => ?_
    have L26 := L25.put (k := 26) (ys := [.ref a24, .ref a25, .ref a26]) s26 (.mk1 e26 rfl rfl rfl) rfl rfl
    have S26 := S25.trans s26
    clear L25 S25 e26 s26
    walk_at "go"
    refine go_ev1r fun a27 H27 s27 e27 => ?_
    have L27 := L26.put (k := 27) (ys := [.ref a24, .ref a25, .ref a26, .ref a27]) s27 (.mk1 e27 rfl rfl rfl) rfl rfl
    have S27 := S26.trans s27
    clear L26 S26 e27 s27
    have l6 := S27 _ _ k5
    walk_at "go"
    rename_i m J n z e
    have f := z _ _ l6
    refine go_ext f e (by rw [z5]; exact Nat.le_of_ble_eq_true rfl) ?_
    generalize hG : upd J l _ = G6
    have M6 := ErL.ext (M5.same (S27.trans z)) (L27.same z) z5 f hG
    have U6 := same_setG (U5.trans (S27.trans z)) n0 hG
    have k6 := at_setG hG
    clear hG f n z e M5 U5 L27 S27 l6 k5
    obtain ⟨x6, y6, z6⟩ : ∃ xs, x5 ++ [V.ref a24, V.ref a25, V.ref a26, V.ref a27] = xs ∧ xs.length = 28 := ⟨_, rfl, by rw [List.length_append, z5]; rfl⟩
    rw [y6] at k6 M6
    clear y6 z5
    walk_at "go"
    refine go_ev1r fun a28 H28 s28 e28 => ?_
    have L28 := (ErK.nil (cs := (xInvalidNumber :: xInvalidPhase :: xInvalidSign :: xInvalidPair :: xInvalidLength :: xInvalidClosed :: xInvalidAxis :: xInvalidName :: xInvalidPlace :: xInvalidKind :: xInvalidDirection :: xInvalidMove :: xInvalidEdges :: xInvalidBegins :: xInvalidEntry :: xInvalidReach :: xInvalidDistance :: xInvalidLooks :: xInvalidPlaces :: xInvalidWord :: xInvalidTarget :: xInvalidState :: xInvalidRule :: xInvalidTable :: xInvalidMap :: xInvalidPlan :: xInvalidGauge :: xInvalidClaim :: xInvalidCommand :: xInvalidRounds :: xInvalidStates :: xInvalidMoves :: xInvalidText :: xUnknownWord :: xCommandFailed :: xNotBalanced :: xOtherPlan :: xOtherMap :: xNoNeighbour :: xTooMany :: xDividedByZero :: xNothingToUndo :: [])) (H := G6) (a := a) (b := b) (n := 28)).put (k := 28) (ys := [.ref a28]) s28 (.mk1 e28 rfl rfl rfl) rfl rfl
    have S28 := s28
    clear e28 s28
    walk_at "go"
    refine go_ev1r fun a29 H29 s29 e29 => ?_
    have L29 := L28.put (k := 29) (ys := [.ref a28, .ref a29]) s29 (.mk1 e29 rfl rfl rfl) rfl rfl
    have S29 := S28.trans s29
    clear L28 S28 e29 s29
    walk_at "go"
    refine go_ev1r fun a30 H30 s30 e30 => ?_
    have L30 := L29.put (k := 30) (ys := [.ref a28, .ref a29, .ref a30]) s30 (.mk1 e30 rfl rfl rfl) rfl rfl
    have S30 := S29.trans s30
    clear L29 S29 e30 s30
    have l7 := S30 _ _ k6
    walk_at "go"
    rename_i m J n z e
    have f := z _ _ l7
    refine go_ext f e (by rw [z6]; exact Nat.le_of_ble_eq_true rfl) ?_
    generalize hG : upd J l _ = G7
    have M7 := ErL.ext (M6.same (S30.trans z)) (L30.same z) z6 f hG
    have U7 := same_setG (U6.trans (S30.trans z)) n0 hG
    have k7 := at_setG hG
    clear hG f n z e M6 U6 L30 S30 l7 k6
    obtain ⟨x7, y7, z7⟩ : ∃ xs, x6 ++ [V.ref a28, V.ref a29, V.ref a30] = xs ∧ xs.length = 31 := ⟨_, rfl, by rw [List.length_append, z6]; rfl⟩
    rw [y7] at k7 M7
    clear y7 z6
    walk_at "go"
    refine go_ev1r fun a31 H31 s31 e31 => ?_
    have L31 := (ErK.nil (cs := (xInvalidNumber :: xInvalidPhase :: xInvalidSign :: xInvalidPair :: xInvalidLength :: xInvalidClosed :: xInvalidAxis :: xInvalidName :: xInvalidPlace :: xInvalidKind :: xInvalidDirection :: xInvalidMove :: xInvalidEdges :: xInvalidBegins :: xInvalidEntry :: xInvalidReach :: xInvalidDistance :: xInvalidLooks :: xInvalidPlaces :: xInvalidWord :: xInvalidTarget :: xInvalidState :: xInvalidRule :: xInvalidTable :: xInvalidMap :: xInvalidPlan :: xInvalidGauge :: xInvalidClaim :: xInvalidCommand :: xInvalidRounds :: xInvalidStates :: xInvalidMoves :: xInvalidText :: xUnknownWord :: xCommandFailed :: xNotBalanced :: xOtherPlan :: xOtherMap :: xNoNeighbour :: xTooMany :: xDividedByZero :: xNothingToUndo :: [])) (H := G7) (a := a) (b := b) (n := 31)).put (k := 31) (ys := [.ref a31]) s31 (.mk1 e31 rfl rfl rfl) rfl rfl
    have S31 := s31
    clear e31 s31
    walk_at "go"
    refine go_ev1r fun a32 H32 s32 e32 => ?_
    have L32 := L31.put (k := 32) (ys := [.ref a31, .ref a32]) s32 (.mk1 e32 rfl rfl rfl) rfl rfl
    have S32 := S31.trans s32
    clear L31 S31 e32 s32
    walk_at "go"
    refine go_ev1r fun a33 H33 s33 e33 => ?_
    have L33 := L32.put (k := 33) (ys := [.ref a31, .ref a32, .ref a33]) s33 (.mk1 e33 rfl rfl rfl) rfl rfl
    have S33 := S32.trans s33
    clear L32 S32 e33 s33
    walk_at "go"
    refine go_ev1r fun a34 H34 s34 e34 => ?_
    have L34 := L33.put (k := 34) (ys := [.ref a31, .ref a32, .ref a33, .ref a34]) s34 (.mk1 e34 rfl rfl rfl) rfl rfl
    have S34 := S33.trans s34
    clear L33 S33 e34 s34
    have l8 := S34 _ _ k7
    walk_at "go"
    rename_i m J n z e
    have f := z _ _ l8
    refine go_ext f e (by rw [z7]; exact Nat.le_of_ble_eq_true rfl) ?_
    generalize hG : upd J l _ = G8
    have M8 := ErL.ext (M7.same (S34.trans z)) (L34.same z) z7 f hG
    have U8 := same_setG (U7.trans (S34.trans z)) n0 hG
    have k8 := at_setG hG
    clear hG f n z e M7 U7 L34 S34 l8 k7
    obtain ⟨x8, y8, z8⟩ : ∃ xs, x7 ++ [V.ref a31, V.ref a32, V.ref a33, V.ref a34] = xs ∧ xs.length = 35 := ⟨_, rfl, by rw [List.length_append, z7]; rfl⟩
    rw [y8] at k8 M8
    clear y8 z7
    walk_at "go"
    refine go_evkr fun a35 H35 s35 e35 => ?_
    have L35 := (ErK.nil (cs := (xInvalidNumber :: xInvalidPhase :: xInvalidSign :: xInvalidPair :: xInvalidLength :: xInvalidClosed :: xInvalidAxis :: xInvalidName :: xInvalidPlace :: xInvalidKind :: xInvalidDirection :: xInvalidMove :: xInvalidEdges :: xInvalidBegins :: xInvalidEntry :: xInvalidReach :: xInvalidDistance :: xInvalidLooks :: xInvalidPlaces :: xInvalidWord :: xInvalidTarget :: xInvalidState :: xInvalidRule :: xInvalidTable :: xInvalidMap :: xInvalidPlan :: xInvalidGauge :: xInvalidClaim :: xInvalidCommand :: xInvalidRounds :: xInvalidStates :: xInvalidMoves :: xInvalidText :: xUnknownWord :: xCommandFailed :: xNotBalanced :: xOtherPlan :: xOtherMap :: xNoNeighbour :: xTooMany :: xDividedByZero :: xNothingToUndo :: [])) (H := G8) (a := a) (b := b) (n := 35)).put (k := 35) (ys := [.ref a35]) s35 (.mk1 e35 rfl rfl rfl) rfl rfl
    have S35 := s35
    clear e35 s35
    walk_at "go"
    refine go_evkr fun a36 H36 s36 e36 => ?_
    have L36 := L35.put (k := 36) (ys := [.ref a35, .ref a36]) s36 (.mk1 e36 rfl rfl rfl) rfl rfl
    have S36 := S35.trans s36
    clear L35 S35 e36 s36
    walk_at "go"
    refine go_evkr fun a37 H37 s37 e37 => ?_
    have L37 := L36.put (k := 37) (ys := [.ref a35, .ref a36, .ref a37]) s37 (.mk1 e37 rfl rfl rfl) rfl rfl
    have S37 := S36.trans s37
    clear L36 S36 e37 s37
    have l9 := S37 _ _ k8
    walk_at "go"
    rename_i m J n z e
    have f := z _ _ l9
    refine go_ext f e (by rw [z8]; exact Nat.le_of_ble_eq_true rfl) ?_
    generalize hG : upd J l _ = G9
    have M9 := ErL.ext (M8.same (S37.trans z)) (L37.same z) z8 f hG
    have U9 := same_setG (U8.trans (S37.trans z)) n0 hG
    have k9 := at_setG hG
    clear hG f n z e M8 U8 L37 S37 l9 k8
    obtain ⟨x9, y9, z9⟩ : ∃ xs, x8 ++ [V.ref a35, V.ref a36, V.ref a37] = xs ∧ xs.length = 38 := ⟨_, rfl, by rw [List.length_append, z8]; rfl⟩
    rw [y9] at k9 M9
    clear y9 z8
    walk_at "go"
    refine go_evkr fun a38 H38 s38 e38 => ?_
    have L38 := (ErK.nil (cs := (xInvalidNumber :: xInvalidPhase :: xInvalidSign :: xInvalidPair :: xInvalidLength :: xInvalidClosed :: xInvalidAxis :: xInvalidName :: xInvalidPlace :: xInvalidKind :: xInvalidDirection :: xInvalidMove :: xInvalidEdges :: xInvalidBegins :: xInvalidEntry :: xInvalidReach :: xInvalidDistance :: xInvalidLooks :: xInvalidPlaces :: xInvalidWord :: xInvalidTarget :: xInvalidState :: xInvalidRule :: xInvalidTable :: xInvalidMap :: xInvalidPlan :: xInvalidGauge :: xInvalidClaim :: xInvalidCommand :: xInvalidRounds :: xInvalidStates :: xInvalidMoves :: xInvalidText :: xUnknownWord :: xCommandFailed :: xNotBalanced :: xOtherPlan :: xOtherMap :: xNoNeighbour :: xTooMany :: xDividedByZero :: xNothingToUndo :: [])) (H := G9) (a := a) (b := b) (n := 38)).put (k := 38) (ys := [.ref a38]) s38 (.mk1 e38 rfl rfl rfl) rfl rfl
    have S38 := s38
    clear e38 s38
    walk_at "go"
    refine go_evkr fun a39 H39 s39 e39 => ?_
    have L39 := L38.put (k := 39) (ys := [.ref a38, .ref a39]) s39 (.mk1 e39 rfl rfl rfl) rfl rfl
    have S39 := S38.trans s39
    clear L38 S38 e39 s39
    walk_at "go"
    refine go_ev0 fun a40 H40 s40 e40 => ?_
    have L40 := L39.put (k := 40) (ys := [.ref a38, .ref a39, .ref a40]) s40 (.mk0 e40 rfl rfl) rfl rfl
    have S40 := S39.trans s40
    clear L39 S39 e40 s40
    walk_at "go"
    refine go_ev0 fun a41 H41 s41 e41 => ?_
    have L41 := L40.put (k := 41) (ys := [.ref a38, .ref a39, .ref a40, .ref a41]) s41 (.mk0 e41 rfl rfl) rfl rfl
    have S41 := S40.trans s41
    clear L40 S40 e41 s41
    have l10 := S41 _ _ k9
    walk_at "go"
    rename_i m J n z e
    have f := z _ _ l10
    refine go_ext f e (by rw [z9]; exact Nat.le_of_ble_eq_true rfl) ?_
    generalize hG : upd J l _ = G10
    have M10 := ErL.ext (M9.same (S41.trans z)) (L41.same z) z9 f hG
    have U10 := same_setG (U9.trans (S41.trans z)) n0 hG
    have k10 := at_setG hG
    clear hG f n z e M9 U9 L41 S41 l10 k9
    obtain ⟨x10, y10, z10⟩ : ∃ xs, x9 ++ [V.ref a38, V.ref a39, V.ref a40, V.ref a41] = xs ∧ xs.length = 42 := ⟨_, rfl, by rw [List.length_append, z9]; rfl⟩
    rw [y10] at k10 M10
    clear y10 z9
    walk_at "go"
    exact q _ _ _ U10 k10 z10 M10
end
end T
set_option Elab.async false
set_option maxRecDepth 100000
set_option maxHeartbeats 4000000
namespace T
open PySem L2 Mv
abbrev s_flags : Stmt := top 54
theorem sc_flags : FnScope ["_law_e", "_law_found"] ["_law_e"] (defScope s_flags) := ⟨rfl, rfl, rfl, by decide +kernel, rfl, by decide +kernel, by decide +kernel⟩
abbrev s_grounds : Stmt := top 55
theorem sc_grounds : FnScope ["_law_e", "_law_found"] ["_law_e"] (defScope s_grounds) := ⟨rfl, rfl, rfl, by decide +kernel, rfl, by decide +kernel, by decide +kernel⟩
def flL (fl : Nat → Bool) (n : Nat) : List V := (List.range n).map fun j => V.bl (fl j)
section
variable {K : PySem.W.Frag} {H H' G : Hp} {e l D : Addr} {xs ys : List V}
theorem isG (h : EvIs H e D) (hl : H l = some (.lst xs)) (hG : upd H l (.lst ys) = G) : EvIs G e D := by
  rw [← hG]
  refine ⟨h.ex.imp (fun z => ?_) fun ⟨fs, z⟩ => ⟨fs, z.setl hl⟩⟩
  rw [upd_ne (at_ne hl z (fun q => exo_lst q.symm))]
  exact z
end
theorem _root_.Mv.EvIs.setG {H G : Hp} {e l D : Addr} {xs ys : List V} (h : EvIs H e D) (hl : H l = some (.lst xs)) (hG : upd H l (.lst ys) = G) : EvIs G e D := isG h hl hG
/-- what the twelve questions about grounds come to -/
def dueL (g : Nat) : List V := (List.range 4).map (fun j => V.bl (decide (g = j))) ++ ((List.range 8).map fun j => V.bl (decide (g = j)))
section
variable {P : Program} {w : World} {K : PySem.W.Frag} {mg : Str → Option Value} {base : Heap} {xInvalidNumber xInvalidPhase xInvalidSign xInvalidPair xInvalidLength xInvalidClosed xInvalidAxis xInvalidName xInvalidPlace xInvalidKind xInvalidDirection xInvalidMove xInvalidEdges xInvalidBegins xInvalidEntry xInvalidReach xInvalidDistance xInvalidLooks xInvalidPlaces xInvalidWord xInvalidTarget xInvalidState xInvalidRule xInvalidTable xInvalidMap xInvalidPlan xInvalidGauge xInvalidClaim xInvalidCommand xInvalidRounds xInvalidStates xInvalidMoves xInvalidText xUnknownWord xCommandFailed xNotBalanced xOtherPlan xOtherMap xNoNeighbour xTooMany xDividedByZero xNothingToUndo xCellError xMissingError xStateError xLimitError : Addr}
def sp_lflags (K : PySem.W.Frag) (cs : List Addr) : Sp := fun vs H Q _ => ∃ (e D : Addr) (fl : Nat → Bool), vs = [.ref e] ∧ EvIs H e D ∧ L2.ExcC K D ∧ (∀ (j : Nat) (C : Addr), cs[j]? = some C → PySem.W.kitOne K (.ref D) (.ref C) = some (fl j)) ∧ ∀ l H', Same H H' → H' l = some (.lst (flL fl 42)) → Q (.ref l) H'
theorem c_lflags {K : PySem.W.Frag} {cs : List Addr} {e D : Addr} {fl : Nat → Bool} {H : Hp} {Q : VK} {E : XK} (h0 : EvIs H e D) (h1 : L2.ExcC K D) (h2 : (∀ (j : Nat) (C : Addr), cs[j]? = some C → PySem.W.kitOne K (.ref D) (.ref C) = some (fl j))) (q : ∀ l H', Same H H' → H' l = some (.lst (flL fl 42)) → Q (.ref l) H') : sp_lflags K cs [.ref e] H Q E := ⟨_, _, _, rfl, h0, h1, h2, q⟩
def sp_lgrounds (K : PySem.W.Frag) (bs : List Addr) : Sp := fun vs H Q _ => ∃ (e D : Addr) (g : Nat), vs = [.ref e] ∧ EvIs H e D ∧ L2.ExcC K D ∧ (∀ (j : Nat) (C : Addr), bs[j]? = some C → PySem.W.kitOne K (.ref D) (.ref C) = some (decide (g = j))) ∧ (∀ (j : Nat) (t : String), gts[j]? = some t → PySem.W.kitOne K (.ref D) (.type t) = some (decide (g = j))) ∧ ∀ l H', Same H H' → H' l = some (.lst (dueL g)) → Q (.ref l) H'
theorem c_lgrounds {K : PySem.W.Frag} {bs : List Addr} {e D : Addr} {g : Nat} {H : Hp} {Q : VK} {E : XK} (h0 : EvIs H e D) (h1 : L2.ExcC K D) (h2 : (∀ (j : Nat) (C : Addr), bs[j]? = some C → PySem.W.kitOne K (.ref D) (.ref C) = some (decide (g = j)))) (h3 : (∀ (j : Nat) (t : String), gts[j]? = some t → PySem.W.kitOne K (.ref D) (.type t) = some (decide (g = j)))) (q : ∀ l H', Same H H' → H' l = some (.lst (dueL g)) → Q (.ref l) H') : sp_lgrounds K bs [.ref e] H Q E := ⟨_, _, _, rfl, h0, h1, h2, h3, q⟩
local macro_rules | `(tactic| tb_rel) => `(tactic| repeat (first
  | with_reducible assumption
  | with_reducible exact Dp.int _
  | with_reducible exact Dp.str _
  | with_reducible exact Dp.bl _
  | with_reducible exact Dp.non
  | (with_reducible apply SqT.of; with_reducible assumption)
  | (with_reducible apply SqL.of; with_reducible assumption)
  | (with_reducible apply up_dp; with_reducible assumption)
  | (with_reducible apply up_sqt; with_reducible assumption)
  | (with_reducible apply up_sql; with_reducible assumption)
  | (with_reducible apply up_get; with_reducible assumption)
  | (with_reducible apply up_pot; with_reducible assumption)
  | with_reducible exact Same.refl _
  | with_reducible exact Bu.refl _ _
  | (with_reducible apply up_same; with_reducible assumption)
  | (with_reducible apply up_bu; with_reducible assumption)
  | (with_reducible apply bu_bu; with_reducible assumption)
  | (with_reducible apply free_of; with_reducible assumption)
  | (with_reducible apply mi_fr; with_reducible assumption; (focus (tb_rel; done)))
  | (with_reducible apply mi_dp; with_reducible assumption)
  | (with_reducible apply mi_sqt; with_reducible assumption)
  | (with_reducible apply mi_sql; with_reducible assumption)
  | (with_reducible apply mi_gett; with_reducible assumption)
  | (with_reducible apply mi_getl; with_reducible assumption)
  | (with_reducible apply mi_pot; with_reducible assumption)
  | (with_reducible apply mi_refl; with_reducible assumption; (focus (with_unfolding_all exact rfl)))
  | (with_reducible apply up_mi; with_reducible assumption)
  | (with_reducible apply mi_mi; with_reducible assumption)
  | (with_reducible apply mi_bu; with_reducible assumption)
  | (with_reducible apply bu_gett; with_reducible assumption; (focus (tb_rel; done)))
  | (with_reducible apply bu_geti; with_reducible assumption; (focus (tb_rel; done)))
  | (with_reducible apply bu_get; with_reducible assumption; (focus (tlg_ne; done)))
  | (with_reducible apply bu_sqt; with_reducible assumption; (focus (tb_rel; done)))
  | (with_reducible apply bu_sql; with_reducible assumption; (focus (tlg_ne; done)))
  | (with_reducible apply bu_dp; with_reducible assumption; (focus (tb_rel; done)); (focus (lcg_src; done)))
  | fail "up"))
local macro_rules | `(tactic| tlg_ne) => `(tactic| first
  | with_reducible assumption
  | (with_reducible apply pot_ne; with_reducible assumption; (focus (tb_rel; done)))
  | fail "ne")
local macro_rules | `(tactic| lcg_src) => `(tactic| first
  | with_reducible assumption
  | with_unfolding_all exact rfl
  | with_unfolding_all decide
  | with_unfolding_all exact Nat.ne_of_beq_eq_false rfl
  | (apply_assumption; done)
  | omega
  | (simp; done)
  | (simp; omega)
  | fail "sd")
local macro_rules | `(tactic| lcg_sub) => `(tactic| first
  | (unfold sizeLine; omega)
  | (simp only [List.length_cons, List.length_nil, List.length_append, List.length_map, List.length_replicate, List.length_take, List.length_drop]; unfold sizeLine; omega)
  | (simp; unfold sizeLine; omega)
  | fail "sz")
local macro_rules | `(tactic| nest_cls) => `(tactic| first
  | (tb_rel; done)
  | (with_reducible apply nmI; (focus (tb_rel; done)))
  | (with_reducible apply d_tup; (focus (tb_rel; done)); (focus (lsm_bools; done)))
  | (with_reducible apply d_lst; (focus (tb_rel; done)); (focus (lsm_bools; done)))
  | fail "dp")
local macro_rules | `(tactic| lsm_bools) => `(tactic| repeat (first
  | with_reducible exact DpAll.nil
  | with_reducible assumption
  | (with_reducible apply DpAll.cons; (focus (nest_cls; done)))
  | fail "dpa"))
local macro_rules | `(tactic| none_booked) => `(tactic| first | with_unfolding_all exact rfl | (with_reducible apply atI_nat; with_reducible assumption) | fail "ix")
local macro_rules | `(tactic| walk_at "go") => `(tactic| repeat (first
  | (focus (with_reducible refine go_var (v := ?_) ?_ ?_; rotate_left; (focus (with_unfolding_all exact rfl))))
  | with_reducible refine go_seq ?_
  | with_reducible refine go_cN ?_
  | with_reducible refine go_c ?_
  | with_reducible refine go_op ?_
  | with_reducible refine go_nil ?_
  | with_reducible refine go_cons ?_
  | with_reducible refine go_cb ?_
  | with_reducible refine go_call0 ?_
  | with_reducible refine go_asg ?_
  | (focus (with_reducible refine go_gname (σ' := ?_) ?_ ?_; rotate_left; (focus (simp only [List.set_cons_succ, List.set_cons_zero]; exact rfl))))
  | with_reducible refine go_par ?_
  | with_reducible refine go_par3 ?_
  | (focus (with_reducible refine go_par3k (σ' := ?_) ?_ ?_; rotate_left; (focus (simp only [List.set_cons_succ, List.set_cons_zero]; exact rfl))))
  | with_reducible refine go_bm ?_
  | (with_reducible apply go_bmL; (focus (tb_rel; done)))
  | (with_reducible apply go_fdX; (focus (with_reducible assumption; done)))
  | (with_reducible apply go_rI; (focus (with_reducible assumption; done)))
  | (focus (with_reducible refine go_par2 (σ' := ?_) ?_ ?_; rotate_left; (focus (simp only [List.set_cons_succ, List.set_cons_zero]; exact rfl))))
  | with_reducible refine go_ifs ?_
  | with_reducible refine go_test ?_
  | with_reducible refine go_tb ?_
  | with_reducible refine go_asb ?_
  | with_reducible refine go_asi ?_
  | with_reducible refine go_ret ?_
  | with_reducible refine go_retn ?_
  | with_reducible refine go_drop ?_
  | with_reducible refine go_next ?_
  | with_reducible refine go_and ?_
  | with_reducible refine go_or ?_
  | with_reducible refine go_not ?_
  | with_reducible refine go_andv ?_
  | with_reducible refine go_orv ?_
  | with_reducible refine go_notv ?_
  | with_reducible refine go_ife ?_
  | with_reducible refine go_chain ?_
  | with_reducible refine go_if1 ?_
  | with_reducible refine go_if0 ?_
  | with_reducible refine go_ifn1 ?_
  | with_reducible refine go_ifn0 ?_
  | (with_reducible apply go_ift; (focus (first | with_reducible rfl | with_reducible assumption | omega)))
  | (with_reducible apply go_ifnt; (focus (first | with_reducible rfl | with_reducible assumption | omega)))
  | (with_reducible apply go_iff; (focus (first | with_reducible assumption | omega)))
  | (with_reducible apply go_ifnf; (focus (first | with_reducible assumption | omega)))
  | with_reducible refine go_un ?_
  | with_reducible refine go_tup ?_
  | with_reducible refine go_lst ?_
  | (with_reducible apply go_newt; (focus (lcg_sub; done)); intros)
  | (with_reducible apply go_newl; (focus (lcg_sub; done)); intros)
  | with_reducible refine go_meth ?_
  | with_reducible refine go_for ?_
  | with_reducible refine go_lc ?_
  | with_reducible refine go_irng1 ?_
  | with_reducible refine go_irng2 ?_
  | with_reducible refine go_ilist ?_
  | with_reducible refine go_itup ?_
  | with_reducible refine go_izip ?_
  | with_reducible refine go_ienum ?_
  | (with_reducible apply go_rg1; (focus (lcg_src; done)))
  | (with_reducible apply go_rg2; (focus (lcg_src; done)); (focus (lcg_src; done)))
  | (with_reducible apply go_lsr; (focus (tb_rel; done)))
  | (with_reducible apply go_tpr; (focus (tb_rel; done)))
  | (with_reducible apply go_zpr; (focus (tb_rel; done)); (focus (tb_rel; done)))
  | (with_reducible apply go_zprT; (focus (tb_rel; done)); (focus (tb_rel; done)))
  | (with_reducible apply go_enrL; (focus (tb_rel; done)))
  | (with_reducible apply go_enrT; (focus (tb_rel; done)))
  | with_reducible refine go_prop ?_
  | with_reducible refine go_knr0 ?_
  | (with_reducible apply go_knr; (focus (with_unfolding_all exact rfl; done)); (focus (simp only [kSw2, kRev3, kId, List.nil_append, List.cons_append]; exact rfl)))
  | with_reducible refine go_mkn ?_
  | (with_reducible apply go_mkr; (focus (tb_rel; done)); (focus (with_unfolding_all exact rfl; done)))
  | with_reducible refine go_fld ?_
  | (with_reducible apply go_flr; (focus (tb_rel; done)); (focus (with_reducible assumption; done)); (focus (with_reducible assumption; done)); (focus (with_unfolding_all exact rfl; done)))
  | (with_reducible apply go_prr; (focus (tb_rel; done)))
  | (with_reducible apply go_mer; (focus (tb_rel; done)); (focus (with_unfolding_all exact rfl; done)))
  | with_reducible refine go_sfld ?_
  | (with_reducible apply go_sfr; (focus (tb_rel; done)); (focus (with_reducible assumption; done)); (focus (with_reducible assumption; done)); (focus (with_unfolding_all exact Nat.le_of_ble_eq_true rfl; done)); (focus (with_unfolding_all exact rfl; done)); intros)
  | with_reducible refine go_revt ?_
  | with_reducible refine go_make0 ?_
  | (focus (with_reducible refine go_aug (x := ?_) ?_ ?_; rotate_left; (focus (with_unfolding_all exact rfl))))
  | (focus (with_reducible refine go_augk (σ' := ?_) ?_ ?_; rotate_left; (focus (simp only [List.set_cons_succ, List.set_cons_zero]; exact rfl))))
  | with_reducible refine go_min2 ?_
  | with_reducible refine go_int1 ?_
  | with_reducible refine go_max2 ?_
  | with_reducible refine go_intB ?_
  | with_reducible refine go_absN ?_
  | with_reducible refine go_isN ?_
  | with_reducible refine go_notN ?_
  | (with_reducible apply go_rvt; (focus (tb_rel; done)); (focus (simp only [List.reverse_cons, List.reverse_nil, List.nil_append, List.cons_append]; exact rfl)); intros)
  | (with_reducible apply go_reprNm; (focus (tb_rel; done)); (focus (with_reducible assumption; done)))
  | (with_reducible apply go_reprPr; (focus (nest_cls; done)); (focus (lcg_src; done)); (focus (lcg_src; done)))
  | with_reducible refine go_sl ?_
  | with_reducible refine go_part ?_
  | with_reducible refine go_nopart ?_
  | (with_reducible apply go_gtup; (focus (tb_rel; done)); (focus (with_unfolding_all exact rfl; done)))
  | (with_reducible apply go_gunl; (focus (tb_rel; done)); (focus (with_unfolding_all exact rfl; done)))
  | with_reducible refine go_gcons ?_
  | with_reducible refine go_gnil ?_
  | with_reducible refine go_addN ?_
  | with_reducible refine go_ltN ?_
  | with_reducible refine go_leN ?_
  | with_reducible refine go_gtN ?_
  | with_reducible refine go_geN ?_
  | (with_reducible apply go_subN; (focus (omega; done)))
  | with_reducible refine go_rI0 ?_
  | (with_reducible apply go_mulN; (focus (omega; done)))
  | (with_reducible apply go_modN; (focus (omega; done)))
  | (with_reducible apply go_divN; (focus (omega; done)))
  | (with_reducible apply go_powN; (focus (with_unfolding_all decide; done)))
  | with_reducible refine go_rU ?_
  | with_reducible refine go_eqN ?_
  | with_reducible refine go_neN ?_
  | with_reducible refine go_isB ?_
  | with_reducible refine go_notB ?_
  | with_reducible refine go_eqS ?_
  | with_reducible refine go_neS ?_
  | with_reducible refine go_eqB ?_
  | with_reducible refine go_eqI ?_
  | with_reducible refine go_neI ?_
  | (with_reducible apply go_ixt; (focus (tb_rel; done)); (focus (none_booked; done)))
  | (with_reducible apply go_ixl; (focus (tb_rel; done)); (focus (none_booked; done)))
  | (with_reducible apply go_lent; (focus (tb_rel; done)))
  | (with_reducible apply go_lenNm; (focus (tb_rel; done)))
  | (with_reducible apply go_isiNm; (focus (tb_rel; done)))
  | (with_reducible apply go_lenl; (focus (tb_rel; done)))
  | (with_reducible apply go_catA; (focus (tb_rel; done)); (focus (tb_rel; done)); (focus (lcg_sub; done)); intros)
  | (with_reducible apply go_slaT; (focus (tb_rel; done)); intros)
  | (with_reducible apply go_slaD; (focus (tb_rel; done)); intros)
  | (with_reducible apply go_rep; (focus (tb_rel; done)); (focus (lcg_src; done)); intros)
  | (with_reducible apply go_tupofl; (focus (tb_rel; done)); intros)
  | (with_reducible apply go_sllT; (focus (tb_rel; done)); intros)
  | (with_reducible apply go_sllD; (focus (tb_rel; done)); intros)
  | (with_reducible apply go_cat; (focus (tb_rel; done)); (focus (tb_rel; done)); (focus (lcg_sub; done)); intros)
  | (with_reducible apply c_lflags; (focus (lcg_src; done)); (focus (lcg_src; done)); (focus (lcg_src; done)); intros)
  | (with_reducible apply c_lgrounds; (focus (lcg_src; done)); (focus (lcg_src; done)); (focus (lcg_src; done)); (focus (lcg_src; done)); intros)
  | with_reducible refine go_ev1 ?_
  | with_reducible refine go_ev2 ?_
  | with_reducible refine go_evk ?_
  | with_reducible refine go_evf ?_
  | fail "go"))
theorem ok_flags {f : Addr} {fd : FuncData} (F : Df K "_law_flags" "_law_flags" s_flags [] f fd) (B : Blt mg) (eInvalidNumber : Ev1 P w K mg base "InvalidNumber" xInvalidNumber "value") (eInvalidPhase : Ev1 P w K mg base "InvalidPhase" xInvalidPhase "value") (eInvalidSign : Ev1 P w K mg base "InvalidSign" xInvalidSign "value") (eInvalidPair : Ev1 P w K mg base "InvalidPair" xInvalidPair "value") (eInvalidLength : Ev1 P w K mg base "InvalidLength" xInvalidLength "value") (eInvalidClosed : Ev1 P w K mg base "InvalidClosed" xInvalidClosed "value") (eInvalidAxis : Ev1 P w K mg base "InvalidAxis" xInvalidAxis "value") (eInvalidName : Ev1 P w K mg base "InvalidName" xInvalidName "value") (eInvalidPlace : Ev1 P w K mg base "InvalidPlace" xInvalidPlace "value") (eInvalidKind : Ev1 P w K mg base "InvalidKind" xInvalidKind "value") (eInvalidDirection : Ev1 P w K mg base "InvalidDirection" xInvalidDirection "value") (eInvalidMove : Ev1 P w K mg base "InvalidMove" xInvalidMove "value") (eInvalidEdges : Ev1 P w K mg base "InvalidEdges" xInvalidEdges "value") (eInvalidBegins : Ev1 P w K mg base "InvalidBegins" xInvalidBegins "value") (eInvalidEntry : Ev1 P w K mg base "InvalidEntry" xInvalidEntry "value") (eInvalidReach : Ev1 P w K mg base "InvalidReach" xInvalidReach "value") (eInvalidDistance : Ev1 P w K mg base "InvalidDistance" xInvalidDistance "value") (eInvalidLooks : Ev1 P w K mg base "InvalidLooks" xInvalidLooks "value") (eInvalidPlaces : Ev1 P w K mg base "InvalidPlaces" xInvalidPlaces "value") (eInvalidWord : Ev1 P w K mg base "InvalidWord" xInvalidWord "value") (eInvalidTarget : Ev1 P w K mg base "InvalidTarget" xInvalidTarget "value") (eInvalidState : Ev1 P w K mg base "InvalidState" xInvalidState "value") (eInvalidRule : Ev1 P w K mg base "InvalidRule" xInvalidRule "value") (eInvalidTable : Ev1 P w K mg base "InvalidTable" xInvalidTable "value") (eInvalidMap : Ev1 P w K mg base "InvalidMap" xInvalidMap "value") (eInvalidPlan : Ev1 P w K mg base "InvalidPlan" xInvalidPlan "value") (eInvalidGauge : Ev1 P w K mg base "InvalidGauge" xInvalidGauge "value") (eInvalidClaim : Ev1 P w K mg base "InvalidClaim" xInvalidClaim "value") (eInvalidCommand : Ev1 P w K mg base "InvalidCommand" xInvalidCommand "value") (eInvalidRounds : Ev1 P w K mg base "InvalidRounds" xInvalidRounds "position") (eInvalidStates : Ev1 P w K mg base "InvalidStates" xInvalidStates "position") (eInvalidMoves : Ev1 P w K mg base "InvalidMoves" xInvalidMoves "position") (eInvalidText : Ev1 P w K mg base "InvalidText" xInvalidText "line") (eUnknownWord : Ev1 P w K mg base "UnknownWord" xUnknownWord "value") (eCommandFailed : Ev1 P w K mg base "CommandFailed" xCommandFailed "position") (eNotBalanced : Ev2 P w K mg base "NotBalanced" xNotBalanced "columns" "rows") (eOtherPlan : Ev2 P w K mg base "OtherPlan" xOtherPlan "one" "other") (eOtherMap : Ev2 P w K mg base "OtherMap" xOtherMap "one" "other") (eNoNeighbour : Ev2 P w K mg base "NoNeighbour" xNoNeighbour "value" "move") (eTooMany : Ev2 P w K mg base "TooMany" xTooMany "what" "limit") (eDividedByZero : Ev0 K mg "DividedByZero" xDividedByZero) (eNothingToUndo : Ev0 K mg "NothingToUndo" xNothingToUndo) : FnOk P w K mg base CX0 3 f fd ["_law_e"] (sp_lflags K (xInvalidNumber :: xInvalidPhase :: xInvalidSign :: xInvalidPair :: xInvalidLength :: xInvalidClosed :: xInvalidAxis :: xInvalidName :: xInvalidPlace :: xInvalidKind :: xInvalidDirection :: xInvalidMove :: xInvalidEdges :: xInvalidBegins :: xInvalidEntry :: xInvalidReach :: xInvalidDistance :: xInvalidLooks :: xInvalidPlaces :: xInvalidWord :: xInvalidTarget :: xInvalidState :: xInvalidRule :: xInvalidTable :: xInvalidMap :: xInvalidPlan :: xInvalidGauge :: xInvalidClaim :: xInvalidCommand :: xInvalidRounds :: xInvalidStates :: xInvalidMoves :: xInvalidText :: xUnknownWord :: xCommandFailed :: xNotBalanced :: xOtherPlan :: xOtherMap :: xNoNeighbour :: xTooMany :: xDividedByZero :: xNothingToUndo :: [])) := by
  refine dfOk F sc_flags (fun vs H Q E h => ?_) (fun cdv A outer s H vs Q E hr h => ?_)
  · obtain ⟨e, D, fl, rfl, _⟩ := h
    rfl
  · obtain ⟨e, D, fl, rfl, hI, hC, hk, q⟩ := h
    refine ⟨_, (pss_cons (ps_set (i := 1) sc_flags.nd rfl (Or.inl rfl) (pe_lst (pa_cons (pe_callB (call_isV (K := K) rfl) (by rfl) B.isinstance bt_isinstance (pa_cons (pv 0) (pa_cons (pe_glob (by rfl) eInvalidNumber.k.g (v := .ref xInvalidNumber) rfl) pa_nil))) (pa_cons (pe_callB (call_isV (K := K) rfl) (by rfl) B.isinstance bt_isinstance (pa_cons (pv 0) (pa_cons (pe_glob (by rfl) eInvalidPhase.k.g (v := .ref xInvalidPhase) rfl) pa_nil))) (pa_cons (pe_callB (call_isV (K := K) rfl) (by rfl) B.isinstance bt_isinstance (pa_cons (pv 0) (pa_cons (pe_glob (by rfl) eInvalidSign.k.g (v := .ref xInvalidSign) rfl) pa_nil))) pa_nil)))))
  (pss_cons (ps_expr (pe_bm' PySem.F.plainAttrs_list PySem.F.slot_list_extend PySem.F.type_list_extend mt_extend (pv 1) (pa_cons (pe_lst (pa_cons (pe_callB (call_isV (K := K) rfl) (by rfl) B.isinstance bt_isinstance (pa_cons (pv 0) (pa_cons (pe_glob (by rfl) eInvalidPair.k.g (v := .ref xInvalidPair) rfl) pa_nil))) (pa_cons (pe_callB (call_isV (K := K) rfl) (by rfl) B.isinstance bt_isinstance (pa_cons (pv 0) (pa_cons (pe_glob (by rfl) eInvalidLength.k.g (v := .ref xInvalidLength) rfl) pa_nil))) (pa_cons (pe_callB (call_isV (K := K) rfl) (by rfl) B.isinstance bt_isinstance (pa_cons (pv 0) (pa_cons (pe_glob (by rfl) eInvalidClosed.k.g (v := .ref xInvalidClosed) rfl) pa_nil))) pa_nil)))) pa_nil)))
  (pss_cons (ps_expr (pe_bm' PySem.F.plainAttrs_list PySem.F.slot_list_extend PySem.F.type_list_extend mt_extend (pv 1) (pa_cons (pe_lst (pa_cons (pe_callB (call_isV (K := K) rfl) (by rfl) B.isinstance bt_isinstance (pa_cons (pv 0) (pa_cons (pe_glob (by rfl) eInvalidAxis.k.g (v := .ref xInvalidAxis) rfl) pa_nil))) (pa_cons (pe_callB (call_isV (K := K) rfl) (by rfl) B.isinstance bt_isinstance (pa_cons (pv 0) (pa_cons (pe_glob (by rfl) eInvalidName.k.g (v := .ref xInvalidName) rfl) pa_nil))) (pa_cons (pe_callB (call_isV (K := K) rfl) (by rfl) B.isinstance bt_isinstance (pa_cons (pv 0) (pa_cons (pe_glob (by rfl) eInvalidPlace.k.g (v := .ref xInvalidPlace) rfl) pa_nil))) pa_nil)))) pa_nil)))
  (pss_cons (ps_expr (pe_bm' PySem.F.plainAttrs_list PySem.F.slot_list_extend PySem.F.type_list_extend mt_extend (pv 1) (pa_cons (pe_lst (pa_cons (pe_callB (call_isV (K := K) rfl) (by rfl) B.isinstance bt_isinstance (pa_cons (pv 0) (pa_cons (pe_glob (by rfl) eInvalidKind.k.g (v := .ref xInvalidKind) rfl) pa_nil))) (pa_cons (pe_callB (call_isV (K := K) rfl) (by rfl) B.isinstance bt_isinstance (pa_cons (pv 0) (pa_cons (pe_glob (by rfl) eInvalidDirection.k.g (v := .ref xInvalidDirection) rfl) pa_nil))) (pa_cons (pe_callB (call_isV (K := K) rfl) (by rfl) B.isinstance bt_isinstance (pa_cons (pv 0) (pa_cons (pe_glob (by rfl) eInvalidMove.k.g (v := .ref xInvalidMove) rfl) pa_nil))) pa_nil)))) pa_nil)))
  (pss_cons (ps_expr (pe_bm' PySem.F.plainAttrs_list PySem.F.slot_list_extend PySem.F.type_list_extend mt_extend (pv 1) (pa_cons (pe_lst (pa_cons (pe_callB (call_isV (K := K) rfl) (by rfl) B.isinstance bt_isinstance (pa_cons (pv 0) (pa_cons (pe_glob (by rfl) eInvalidEdges.k.g (v := .ref xInvalidEdges) rfl) pa_nil))) (pa_cons (pe_callB (call_isV (K := K) rfl) (by rfl) B.isinstance bt_isinstance (pa_cons (pv 0) (pa_cons (pe_glob (by rfl) eInvalidBegins.k.g (v := .ref xInvalidBegins) rfl) pa_nil))) (pa_cons (pe_callB (call_isV (K := K) rfl) (by rfl) B.isinstance bt_isinstance (pa_cons (pv 0) (pa_cons (pe_glob (by rfl) eInvalidEntry.k.g (v := .ref xInvalidEntry) rfl) pa_nil))) pa_nil)))) pa_nil)))
  (pss_cons (ps_expr (pe_bm' PySem.F.plainAttrs_list PySem.F.slot_list_extend PySem.F.type_list_extend mt_extend (pv 1) (pa_cons (pe_lst (pa_cons (pe_callB (call_isV (K := K) rfl) (by rfl) B.isinstance bt_isinstance (pa_cons (pv 0) (pa_cons (pe_glob (by rfl) eInvalidReach.k.g (v := .ref xInvalidReach) rfl) pa_nil))) (pa_cons (pe_callB (call_isV (K := K) rfl) (by rfl) B.isinstance bt_isinstance (pa_cons (pv 0) (pa_cons (pe_glob (by rfl) eInvalidDistance.k.g (v := .ref xInvalidDistance) rfl) pa_nil))) (pa_cons (pe_callB (call_isV (K := K) rfl) (by rfl) B.isinstance bt_isinstance (pa_cons (pv 0) (pa_cons (pe_glob (by rfl) eInvalidLooks.k.g (v := .ref xInvalidLooks) rfl) pa_nil))) pa_nil)))) pa_nil)))
  (pss_cons (ps_expr (pe_bm' PySem.F.plainAttrs_list PySem.F.slot_list_extend PySem.F.type_list_extend mt_extend (pv 1) (pa_cons (pe_lst (pa_cons (pe_callB (call_isV (K := K) rfl) (by rfl) B.isinstance bt_isinstance (pa_cons (pv 0) (pa_cons (pe_glob (by rfl) eInvalidPlaces.k.g (v := .ref xInvalidPlaces) rfl) pa_nil))) (pa_cons (pe_callB (call_isV (K := K) rfl) (by rfl) B.isinstance bt_isinstance (pa_cons (pv 0) (pa_cons (pe_glob (by rfl) eInvalidWord.k.g (v := .ref xInvalidWord) rfl) pa_nil))) (pa_cons (pe_callB (call_isV (K := K) rfl) (by rfl) B.isinstance bt_isinstance (pa_cons (pv 0) (pa_cons (pe_glob (by rfl) eInvalidTarget.k.g (v := .ref xInvalidTarget) rfl) pa_nil))) pa_nil)))) pa_nil)))
  (pss_cons (ps_expr (pe_bm' PySem.F.plainAttrs_list PySem.F.slot_list_extend PySem.F.type_list_extend mt_extend (pv 1) (pa_cons (pe_lst (pa_cons (pe_callB (call_isV (K := K) rfl) (by rfl) B.isinstance bt_isinstance (pa_cons (pv 0) (pa_cons (pe_glob (by rfl) eInvalidState.k.g (v := .ref xInvalidState) rfl) pa_nil))) (pa_cons (pe_callB (call_isV (K := K) rfl) (by rfl) B.isinstance bt_isinstance (pa_cons (pv 0) (pa_cons (pe_glob (by rfl) eInvalidRule.k.g (v := .ref xInvalidRule) rfl) pa_nil))) (pa_cons (pe_callB (call_isV (K := K) rfl) (by rfl) B.isinstance bt_isinstance (pa_cons (pv 0) (pa_cons (pe_glob (by rfl) eInvalidTable.k.g (v := .ref xInvalidTable) rfl) pa_nil))) pa_nil)))) pa_nil)))
  (pss_cons (ps_expr (pe_bm' PySem.F.plainAttrs_list PySem.F.slot_list_extend PySem.F.type_list_extend mt_extend (pv 1) (pa_cons (pe_lst (pa_cons (pe_callB (call_isV (K := K) rfl) (by rfl) B.isinstance bt_isinstance (pa_cons (pv 0) (pa_cons (pe_glob (by rfl) eInvalidMap.k.g (v := .ref xInvalidMap) rfl) pa_nil))) (pa_cons (pe_callB (call_isV (K := K) rfl) (by rfl) B.isinstance bt_isinstance (pa_cons (pv 0) (pa_cons (pe_glob (by rfl) eInvalidPlan.k.g (v := .ref xInvalidPlan) rfl) pa_nil))) (pa_cons (pe_callB (call_isV (K := K) rfl) (by rfl) B.isinstance bt_isinstance (pa_cons (pv 0) (pa_cons (pe_glob (by rfl) eInvalidGauge.k.g (v := .ref xInvalidGauge) rfl) pa_nil))) pa_nil)))) pa_nil)))
  (pss_cons (ps_expr (pe_bm' PySem.F.plainAttrs_list PySem.F.slot_list_extend PySem.F.type_list_extend mt_extend (pv 1) (pa_cons (pe_lst (pa_cons (pe_callB (call_isV (K := K) rfl) (by rfl) B.isinstance bt_isinstance (pa_cons (pv 0) (pa_cons (pe_glob (by rfl) eInvalidClaim.k.g (v := .ref xInvalidClaim) rfl) pa_nil))) (pa_cons (pe_callB (call_isV (K := K) rfl) (by rfl) B.isinstance bt_isinstance (pa_cons (pv 0) (pa_cons (pe_glob (by rfl) eInvalidCommand.k.g (v := .ref xInvalidCommand) rfl) pa_nil))) (pa_cons (pe_callB (call_isV (K := K) rfl) (by rfl) B.isinstance bt_isinstance (pa_cons (pv 0) (pa_cons (pe_glob (by rfl) eInvalidRounds.k.g (v := .ref xInvalidRounds) rfl) pa_nil))) pa_nil)))) pa_nil)))
  (pss_cons (ps_expr (pe_bm' PySem.F.plainAttrs_list PySem.F.slot_list_extend PySem.F.type_list_extend mt_extend (pv 1) (pa_cons (pe_lst (pa_cons (pe_callB (call_isV (K := K) rfl) (by rfl) B.isinstance bt_isinstance (pa_cons (pv 0) (pa_cons (pe_glob (by rfl) eInvalidStates.k.g (v := .ref xInvalidStates) rfl) pa_nil))) (pa_cons (pe_callB (call_isV (K := K) rfl) (by rfl) B.isinstance bt_isinstance (pa_cons (pv 0) (pa_cons (pe_glob (by rfl) eInvalidMoves.k.g (v := .ref xInvalidMoves) rfl) pa_nil))) (pa_cons (pe_callB (call_isV (K := K) rfl) (by rfl) B.isinstance bt_isinstance (pa_cons (pv 0) (pa_cons (pe_glob (by rfl) eInvalidText.k.g (v := .ref xInvalidText) rfl) pa_nil))) pa_nil)))) pa_nil)))
  (pss_cons (ps_expr (pe_bm' PySem.F.plainAttrs_list PySem.F.slot_list_extend PySem.F.type_list_extend mt_extend (pv 1) (pa_cons (pe_lst (pa_cons (pe_callB (call_isV (K := K) rfl) (by rfl) B.isinstance bt_isinstance (pa_cons (pv 0) (pa_cons (pe_glob (by rfl) eUnknownWord.k.g (v := .ref xUnknownWord) rfl) pa_nil))) (pa_cons (pe_callB (call_isV (K := K) rfl) (by rfl) B.isinstance bt_isinstance (pa_cons (pv 0) (pa_cons (pe_glob (by rfl) eCommandFailed.k.g (v := .ref xCommandFailed) rfl) pa_nil))) (pa_cons (pe_callB (call_isV (K := K) rfl) (by rfl) B.isinstance bt_isinstance (pa_cons (pv 0) (pa_cons (pe_glob (by rfl) eNotBalanced.k.g (v := .ref xNotBalanced) rfl) pa_nil))) pa_nil)))) pa_nil)))
  (pss_cons (ps_expr (pe_bm' PySem.F.plainAttrs_list PySem.F.slot_list_extend PySem.F.type_list_extend mt_extend (pv 1) (pa_cons (pe_lst (pa_cons (pe_callB (call_isV (K := K) rfl) (by rfl) B.isinstance bt_isinstance (pa_cons (pv 0) (pa_cons (pe_glob (by rfl) eOtherPlan.k.g (v := .ref xOtherPlan) rfl) pa_nil))) (pa_cons (pe_callB (call_isV (K := K) rfl) (by rfl) B.isinstance bt_isinstance (pa_cons (pv 0) (pa_cons (pe_glob (by rfl) eOtherMap.k.g (v := .ref xOtherMap) rfl) pa_nil))) (pa_cons (pe_callB (call_isV (K := K) rfl) (by rfl) B.isinstance bt_isinstance (pa_cons (pv 0) (pa_cons (pe_glob (by rfl) eNoNeighbour.k.g (v := .ref xNoNeighbour) rfl) pa_nil))) pa_nil)))) pa_nil)))
  (pss_cons (ps_expr (pe_bm' PySem.F.plainAttrs_list PySem.F.slot_list_extend PySem.F.type_list_extend mt_extend (pv 1) (pa_cons (pe_lst (pa_cons (pe_callB (call_isV (K := K) rfl) (by rfl) B.isinstance bt_isinstance (pa_cons (pv 0) (pa_cons (pe_glob (by rfl) eTooMany.k.g (v := .ref xTooMany) rfl) pa_nil))) (pa_cons (pe_callB (call_isV (K := K) rfl) (by rfl) B.isinstance bt_isinstance (pa_cons (pv 0) (pa_cons (pe_glob (by rfl) eDividedByZero.k.g (v := .ref xDividedByZero) rfl) pa_nil))) (pa_cons (pe_callB (call_isV (K := K) rfl) (by rfl) B.isinstance bt_isinstance (pa_cons (pv 0) (pa_cons (pe_glob (by rfl) eNothingToUndo.k.g (v := .ref xNothingToUndo) rfl) pa_nil))) pa_nil)))) pa_nil)))
  (pss_one (ps_ret (pv 1))))))))))))))))), ?_⟩
    refine go_start (σ := [some _, none]) rfl ?_
    walk_at "go"
    refine go_isV hI hC (hk 0 _ rfl) ?_
    walk_at "go"
    refine go_isV hI hC (hk 1 _ rfl) ?_
    walk_at "go"
    refine go_isV hI hC (hk 2 _ rfl) ?_
    walk_at "go"
    rename_i l G0 n z k0
    have I0 := hI.same z
    have U0 := z
    have n0 : H l = none := n
    clear n z
    obtain ⟨x0, y0, w0, z0⟩ : ∃ xs : List V, [V.bl (fl 0), V.bl (fl 1), V.bl (fl 2)] = xs ∧ xs.length = 3 ∧ xs = flL fl 3 := ⟨_, rfl, rfl, rfl⟩
    rw [y0] at k0
    clear y0
    walk_at "go"
    refine go_isV I0 hC (hk 3 _ rfl) ?_
    walk_at "go"
    refine go_isV I0 hC (hk 4 _ rfl) ?_
    walk_at "go"
    refine go_isV I0 hC (hk 5 _ rfl) ?_
    walk_at "go"
    rename_i m J n z e
    have f := z _ _ k0
    refine go_ext f e (by rw [w0]; exact Nat.le_of_ble_eq_true rfl) ?_
    generalize hG : upd J l _ = G1
    have I1 := (I0.same z).setG f hG
    have U1 := same_setG (U0.trans z) n0 hG
    have k1 := at_setG hG
    clear hG f n z e I0 U0 k0
    obtain ⟨x1, y1, w1, z1⟩ : ∃ xs : List V, x0 ++ [V.bl (fl 3), V.bl (fl 4), V.bl (fl 5)] = xs ∧ xs.length = 6 ∧ xs = flL fl 6 := ⟨_, rfl, by rw [List.length_append, w0]; rfl, by rw [z0]; rfl⟩
    rw [y1] at k1
    clear y1 z0 w0
    walk_at "go"
    refine go_isV I1 hC (hk 6 _ rfl) ?_
    walk_at "go"
    refine go_isV I1 hC (hk 7 _ rfl) ?_
    walk_at "go"
    refine go_isV I1 hC (hk 8 _ rfl) ?_
    walk_at "go"
    rename_i m J n z e
    have f := z _ _ k1
    refine go_ext f e (by rw [w1]; exact Nat.le_of_ble_eq_true rfl) ?_
    generalize hG : upd J l _ = G2
    have I2 := (I1.same z).setG f hG
    have U2 := same_setG (U1.trans z) n0 hG
    have k2 := at_setG hG
    clear hG f n z e I1 U1 k1
    obtain ⟨x2, y2, w2, z2⟩ : ∃ xs : List V, x1 ++ [V.bl (fl 6), V.bl (fl 7), V.bl (fl 8)] = xs ∧ xs.length = 9 ∧ xs = flL fl 9 := ⟨_, rfl, by rw [List.length_append, w1]; rfl, by rw [z1]; rfl⟩
    rw [y2] at k2
    clear y2 z1 w1
    walk_at "go"
    refine go_isV I2 hC (hk 9 _ rfl) ?_
    walk_at "go"
    refine go_isV I2 hC (hk 10 _ rfl) ?_
    walk_at "go"
    refine go_isV I2 hC (hk 11 _ rfl) ?_
    walk_at "go"
    rename_i m J n z e
    have f := z _ _ k2
    refine go_ext f e (by rw [w2]; exact Nat.le_of_ble_eq_true rfl) ?_
    generalize hG : upd J l _ = G3
    have I3 := (I2.same z).setG f hG
    have U3 := same_setG (U2.trans z) n0 hG
    have k3 := at_setG hG
    clear hG f n z e I2 U2 k2
    obtain ⟨x3, y3, w3, z3⟩ : ∃ xs : List V, x2 ++ [V.bl (fl 9), V.bl (fl 10), V.bl (fl 11)] = xs ∧ xs.length = 12 ∧ xs = flL fl 12 := ⟨_, rfl, by rw [List.length_append, w2]; rfl, by rw [z2]; rfl⟩
    rw [y3] at k3
    clear y3 z2 w2
    walk_at "go"
    refine go_isV I3 hC (hk 12 _ rfl) ?_
    walk_at "go"
    refine go_isV I3 hC (hk 13 _ rfl) ?_
    walk_at "go"
    refine go_isV I3 hC (hk 14 _ rfl) ?_
    walk_at "go"
    rename_i m J n z e
    have f := z _ _ k3
    refine go_ext f e (by rw [w3]; exact Nat.le_of_ble_eq_true rfl) ?_
    generalize hG : upd J l _ = G4
    have I4 := (I3.same z).setG f hG
    have U4 := same_setG (U3.trans z) n0 hG
    have k4 := at_setG hG
    clear hG f n z e I3 U3 k3
    obtain ⟨x4, y4, w4, z4⟩ : ∃ xs : List V, x3 ++ [V.bl (fl 12), V.bl (fl 13), V.bl (fl 14)] = xs ∧ xs.length = 15 ∧ xs = flL fl 15 := ⟨_, rfl, by rw [List.length_append, w3]; rfl, by rw [z3]; rfl⟩
    rw [y4] at k4
    clear y4 z3 w3
    walk_at "go"
    refine go_isV I4 hC (hk 15 _ rfl) ?_
    walk_at "go"
    refine go_isV I4 hC (hk 16 _ rfl) ?_
    walk_at "go"
    refine go_isV I4 hC (hk 17 _ rfl) ?_
    walk_at "go"
    rename_i m J n z e
    have f := z _ _ k4
    refine go_ext f e (by rw [w4]; exact Nat.le_of_ble_eq_true rfl) ?_
    generalize hG : upd J l _ = G5
    have I5 := (I4.same z).setG f hG
    have U5 := same_setG (U4.trans z) n0 hG
    have k5 := at_setG hG
    clear hG f n z e I4 U4 k4
    obtain ⟨x5, y5, w5, z5⟩ : ∃ xs : List V, x4 ++ [V.bl (fl 15), V.bl (fl 16), V.bl (fl 17)] = xs ∧ xs.length = 18 ∧ xs = flL fl 18 := ⟨_, rfl, by rw [List.length_append, w4]; rfl, by rw [z4]; rfl⟩
    rw [y5] at k5
    clear y5 z4 w4
    walk_at "go"
    refine go_isV I5 hC (hk 18 _ rfl) ?_
    walk_at "go"
    refine go_isV I5 hC (hk 19 _ rfl) ?_
    walk_at "go"
    refine go_isV I5 hC (hk 20 _ rfl) ?_
    walk_at "go"
    rename_i m J n z e
    have f := z _ _ k5
    refine go_ext f e (by rw [w5]; exact Nat.le_of_ble_eq_true rfl) ?_
    generalize hG : upd J l _ = G6
    have I6 := (I5.same z).setG f hG
    have U6 := same_setG (U5.trans z) n0 hG
    have k6 := at_setG hG
    clear hG f n z e I5 U5 k5
    obtain ⟨x6, y6, w6, z6⟩ : ∃ xs : List V, x5 ++ [V.bl (fl 18), V.bl (fl 19), V.bl (fl 20)] = xs ∧ xs.length = 21 ∧ xs = flL fl 21 := ⟨_, rfl, by rw [List.length_append, w5]; rfl, by rw [z5]; rfl⟩
    rw [y6] at k6
    clear y6 z5 w5
    walk_at "go"
    refine go_isV I6 hC (hk 21 _ rfl) ?_
    walk_at "go"
    refine go_isV I6 hC (hk 22 _ rfl) ?_
    walk_at "go"
    refine go_isV I6 hC (hk 23 _ rfl) ?_
    walk_at "go"
    rename_i m J n z e
    have f := z _ _ k6
    refine go_ext f e (by rw [w6]; exact Nat.le_of_ble_eq_true rfl) ?_
    generalize hG : upd J l _ = G7
    have I7 := (I6.same z).setG f hG
    have U7 := same_setG (U6.trans z) n0 hG
    have k7 := at_setG hG
    clear hG f n z e I6 U6 k6
    obtain ⟨x7, y7, w7, z7⟩ : ∃ xs : List V, x6 ++ [V.bl (fl 21), V.bl (fl 22), V.bl (fl 23)] = xs ∧ xs.length = 24 ∧ xs = flL fl 24 := ⟨_, rfl, by rw [List.length_append, w6]; rfl, by rw [z6]; rfl⟩
    rw [y7] at k7
    clear y7 z6 w6
    walk_at "go"
    refine go_isV I7 hC (hk 24 _ rfl) ?_
    walk_at "go"
    refine go_isV I7 hC (hk 25 _ rfl) ?_
    walk_at "go"
    refine go_isV I7 hC (hk 26 _ rfl) ?_
    walk_at "go"
    rename_i m J n z e
    have f := z _ _ k7
    refine go_ext f e (by rw [w7]; exact Nat.le_of_ble_eq_true rfl) ?_
    generalize hG : upd J l _ = G8
    have I8 := (I7.same z).setG f hG
    have U8 := same_setG (U7.trans z) n0 hG
    have k8 := at_setG hG
    clear hG f n z e I7 U7 k7
    obtain ⟨x8, y8, w8, z8⟩ : ∃ xs : List V, x7 ++ [V.bl (fl 24), V.bl (fl 25), V.bl (fl 26)] = xs ∧ xs.length = 27 ∧ xs = flL fl 27 := ⟨_, rfl, by rw [List.length_append, w7]; rfl, by rw [z7]; rfl⟩
    rw [y8] at k8
    clear y8 z7 w7
    walk_at "go"
    refine go_isV I8 hC (hk 27 _ rfl) ?_
    walk_at "go"
    refine go_isV I8 hC (hk 28 _ rfl) ?_
    walk_at "go"
    refine go_isV I8 hC (hk 29 _ rfl) ?_
    walk_at "go"
    rename_i m J n z e
    have f := z _ _ k8
    refine go_ext f e (by rw [w8]; exact Nat.le_of_ble_eq_true rfl) ?_
    generalize hG : upd J l _ = G9
    have I9 := (I8.same z).setG f hG
    have U9 := same_setG (U8.trans z) n0 hG
    have k9 := at_setG hG
    clear hG f n z e I8 U8 k8
    obtain ⟨x9, y9, w9, z9⟩ : ∃ xs : List V, x8 ++ [V.bl (fl 27), V.bl (fl 28), V.bl (fl 29)] = xs ∧ xs.length = 30 ∧ xs = flL fl 30 := ⟨_, rfl, by rw [List.length_append, w8]; rfl, by rw [z8]; rfl⟩
    rw [y9] at k9
    clear y9 z8 w8
    walk_at "go"
    refine go_isV I9 hC (hk 30 _ rfl) ?_
    walk_at "go"
    refine go_isV I9 hC (hk 31 _ rfl) ?_
    walk_at "go"
    refine go_isV I9 hC (hk 32 _ rfl) ?_
    walk_at "go"
    rename_i m J n z e
    have f := z _ _ k9
    refine go_ext f e (by rw [w9]; exact Nat.le_of_ble_eq_true rfl) ?_
    generalize hG : upd J l _ = G10
    have I10 := (I9.same z).setG f hG
    have U10 := same_setG (U9.trans z) n0 hG
    have k10 := at_setG hG
    clear hG f n z e I9 U9 k9
    obtain ⟨x10, y10, w10, z10⟩ : ∃ xs : List V, x9 ++ [V.bl (fl 30), V.bl (fl 31), V.bl (fl 32)] = xs ∧ xs.length = 33 ∧ xs = flL fl 33 := ⟨_, rfl, by rw [List.length_append, w9]; rfl, by rw [z9]; rfl⟩
    rw [y10] at k10
    clear y10 z9 w9
    walk_at "go"
    refine go_isV I10 hC (hk 33 _ rfl) ?_
    walk_at "go"
    refine go_isV I10 hC (hk 34 _ rfl) ?_
    walk_at "go"
    refine go_isV I10 hC (hk 35 _ rfl) ?_
    walk_at "go"
    rename_i m J n z e
    have f := z _ _ k10
    refine go_ext f e (by rw [w10]; exact Nat.le_of_ble_eq_true rfl) ?_
    generalize hG : upd J l _ = G11
    have I11 := (I10.same z).setG f hG
    have U11 := same_setG (U10.trans z) n0 hG
    have k11 := at_setG hG
    clear hG f n z e I10 U10 k10
    obtain ⟨x11, y11, w11, z11⟩ : ∃ xs : List V, x10 ++ [V.bl (fl 33), V.bl (fl 34), V.bl (fl 35)] = xs ∧ xs.length = 36 ∧ xs = flL fl 36 := ⟨_, rfl, by rw [List.length_append, w10]; rfl, by rw [z10]; rfl⟩
    rw [y11] at k11
    clear y11 z10 w10
    walk_at "go"
    refine go_isV I11 hC (hk 36 _ rfl) ?_
    walk_at "go"
    refine go_isV I11 hC (hk 37 _ rfl) ?_
    walk_at "go"
    refine go_isV I11 hC (hk 38 _ rfl) ?_
    walk_at "go"
    rename_i m J n z e
    have f := z _ _ k11
    refine go_ext f e (by rw [w11]; exact Nat.le_of_ble_eq_true rfl) ?_
    generalize hG : upd J l _ = G12
    have I12 := (I11.same z).setG f hG
    have U12 := same_setG (U11.trans z) n0 hG
    have k12 := at_setG hG
    clear hG f n z e I11 U11 k11
    obtain ⟨x12, y12, w12, z12⟩ : ∃ xs : List V, x11 ++ [V.bl (fl 36), V.bl (fl 37), V.bl (fl 38)] = xs ∧ xs.length = 39 ∧ xs = flL fl 39 := ⟨_, rfl, by rw [List.length_append, w11]; rfl, by rw [z11]; rfl⟩
    rw [y12] at k12
    clear y12 z11 w11
    walk_at "go"
    refine go_isV I12 hC (hk 39 _ rfl) ?_
    walk_at "go"
    refine go_isV I12 hC (hk 40 _ rfl) ?_
    walk_at "go"
    refine go_isV I12 hC (hk 41 _ rfl) ?_
    walk_at "go"
    rename_i m J n z e
    have f := z _ _ k12
    refine go_ext f e (by rw [w12]; exact Nat.le_of_ble_eq_true rfl) ?_
    generalize hG : upd J l _ = G13
    have I13 := (I12.same z).setG f hG
    have U13 := same_setG (U12.trans z) n0 hG
    have k13 := at_setG hG
    clear hG f n z e I12 U12 k12
    obtain ⟨x13, y13, w13, z13⟩ : ∃ xs : List V, x12 ++ [V.bl (fl 39), V.bl (fl 40), V.bl (fl 41)] = xs ∧ xs.length = 42 ∧ xs = flL fl 42 := ⟨_, rfl, by rw [List.length_append, w12]; rfl, by rw [z12]; rfl⟩
    rw [y13] at k13
    clear y13 z12 w12
    walk_at "go"
    rw [z13] at k13
    exact q _ _ U13 k13
theorem ok_grounds {f : Addr} {fd : FuncData} (F : Df K "_law_grounds" "_law_grounds" s_grounds [] f fd) (B : Blt mg) (BE : BltE mg) (BE2 : BltE2 mg) (eCellError : Ev0 K mg "CellError" xCellError) (eMissingError : Ev0 K mg "MissingError" xMissingError) (eStateError : Ev0 K mg "StateError" xStateError) (eLimitError : Ev0 K mg "LimitError" xLimitError) : FnOk P w K mg base CX0 3 f fd ["_law_e"] (sp_lgrounds K [xCellError, xMissingError, xStateError, xLimitError]) := by
  refine dfOk F sc_grounds (fun vs H Q E h => ?_) (fun cdv A outer s H vs Q E hr h => ?_)
  · obtain ⟨e, D, g, rfl, _⟩ := h
    rfl
  · obtain ⟨e, D, g, rfl, hI, hC, hk, ht, q⟩ := h
    refine ⟨_, (pss_cons (ps_set (i := 1) sc_grounds.nd rfl (Or.inl rfl) (pe_lst (pa_cons (pe_callB (call_isV (K := K) rfl) (by rfl) B.isinstance bt_isinstance (pa_cons (pv 0) (pa_cons (pe_glob (by rfl) eCellError.k.g (v := .ref xCellError) rfl) pa_nil))) (pa_cons (pe_callB (call_isV (K := K) rfl) (by rfl) B.isinstance bt_isinstance (pa_cons (pv 0) (pa_cons (pe_glob (by rfl) eMissingError.k.g (v := .ref xMissingError) rfl) pa_nil))) (pa_cons (pe_callB (call_isV (K := K) rfl) (by rfl) B.isinstance bt_isinstance (pa_cons (pv 0) (pa_cons (pe_glob (by rfl) eStateError.k.g (v := .ref xStateError) rfl) pa_nil))) pa_nil)))))
  (pss_cons (ps_expr (pe_bm' PySem.F.plainAttrs_list PySem.F.slot_list_extend PySem.F.type_list_extend mt_extend (pv 1) (pa_cons (pe_lst (pa_cons (pe_callB (call_isV (K := K) rfl) (by rfl) B.isinstance bt_isinstance (pa_cons (pv 0) (pa_cons (pe_glob (by rfl) eLimitError.k.g (v := .ref xLimitError) rfl) pa_nil))) (pa_cons (pe_callB (call_isV (K := K) rfl) (by rfl) B.isinstance bt_isinstance (pa_cons (pv 0) (pa_cons (pe_bltn (v := .ty "ValueError") (by rfl) BE.ValueError bt_ValueError rfl) pa_nil))) (pa_cons (pe_callB (call_isV (K := K) rfl) (by rfl) B.isinstance bt_isinstance (pa_cons (pv 0) (pa_cons (pe_bltn (v := .ty "LookupError") (by rfl) BE.LookupError bt_LookupError rfl) pa_nil))) pa_nil)))) pa_nil)))
  (pss_cons (ps_expr (pe_bm' PySem.F.plainAttrs_list PySem.F.slot_list_extend PySem.F.type_list_extend mt_extend (pv 1) (pa_cons (pe_lst (pa_cons (pe_callB (call_isV (K := K) rfl) (by rfl) B.isinstance bt_isinstance (pa_cons (pv 0) (pa_cons (pe_bltn (v := .ty "RuntimeError") (by rfl) BE.RuntimeError bt_RuntimeError rfl) pa_nil))) (pa_cons (pe_callB (call_isV (K := K) rfl) (by rfl) B.isinstance bt_isinstance (pa_cons (pv 0) (pa_cons (pe_bltn (v := .ty "ArithmeticError") (by rfl) BE.ArithmeticError bt_ArithmeticError rfl) pa_nil))) (pa_cons (pe_callB (call_isV (K := K) rfl) (by rfl) B.isinstance bt_isinstance (pa_cons (pv 0) (pa_cons (pe_bltn (v := .ty "KeyError") (by rfl) BE2.KeyError bt_KeyError rfl) pa_nil))) pa_nil)))) pa_nil)))
  (pss_one (ps_ret (pe_op op_cat (pv 1) (pe_lst (pa_cons (pe_callB (call_isV (K := K) rfl) (by rfl) B.isinstance bt_isinstance (pa_cons (pv 0) (pa_cons (pe_bltn (v := .ty "IndexError") (by rfl) BE.IndexError bt_IndexError rfl) pa_nil))) (pa_cons (pe_callB (call_isV (K := K) rfl) (by rfl) B.isinstance bt_isinstance (pa_cons (pv 0) (pa_cons (pe_bltn (v := .ty "TypeError") (by rfl) BE2.TypeError bt_TypeError rfl) pa_nil))) (pa_cons (pe_callB (call_isV (K := K) rfl) (by rfl) B.isinstance bt_isinstance (pa_cons (pv 0) (pa_cons (pe_bltn (v := .ty "ZeroDivisionError") (by rfl) BE2.ZeroDivisionError bt_ZeroDivisionError rfl) pa_nil))) pa_nil)))))))))), ?_⟩
    refine go_start (σ := [some _, none]) rfl ?_
    walk_at "go"
    refine go_isV hI hC (hk 0 _ rfl) ?_
    walk_at "go"
    refine go_isV hI hC (hk 1 _ rfl) ?_
    walk_at "go"
    refine go_isV hI hC (hk 2 _ rfl) ?_
    walk_at "go"
    rename_i l G0 n z k0
    have I0 := hI.same z
    have U0 := z
    have n0 : H l = none := n
    clear n z
    obtain ⟨x0, y0, w0, z0⟩ : ∃ xs : List V, [V.bl (decide (g = 0)), V.bl (decide (g = 1)), V.bl (decide (g = 2))] = xs ∧ xs.length = 3 ∧ xs = (dueL g).take 3 := ⟨_, rfl, rfl, rfl⟩
    rw [y0] at k0
    clear y0
    walk_at "go"
    refine go_isV I0 hC (hk 3 _ rfl) ?_
    walk_at "go"
    refine go_isVt I0 hC (ht 0 _ rfl) ?_
    walk_at "go"
    refine go_isVt I0 hC (ht 1 _ rfl) ?_
    walk_at "go"
    rename_i m J n z e
    have f := z _ _ k0
    refine go_ext f e (by rw [w0]; exact Nat.le_of_ble_eq_true rfl) ?_
    generalize hG : upd J l _ = G1
    have I1 := (I0.same z).setG f hG
    have U1 := same_setG (U0.trans z) n0 hG
    have k1 := at_setG hG
    clear hG f n z e I0 U0 k0
    obtain ⟨x1, y1, w1, z1⟩ : ∃ xs : List V, x0 ++ [V.bl (decide (g = 3)), V.bl (decide (g = 0)), V.bl (decide (g = 1))] = xs ∧ xs.length = 6 ∧ xs = (dueL g).take 6 := ⟨_, rfl, by rw [List.length_append, w0]; rfl, by rw [z0]; rfl⟩
    rw [y1] at k1
    clear y1 z0 w0
    walk_at "go"
    refine go_isVt I1 hC (ht 2 _ rfl) ?_
    walk_at "go"
    refine go_isVt I1 hC (ht 3 _ rfl) ?_
    walk_at "go"
    refine go_isVt I1 hC (ht 4 _ rfl) ?_
    walk_at "go"
    rename_i m J n z e
    have f := z _ _ k1
    refine go_ext f e (by rw [w1]; exact Nat.le_of_ble_eq_true rfl) ?_
    generalize hG : upd J l _ = G2
    have I2 := (I1.same z).setG f hG
    have U2 := same_setG (U1.trans z) n0 hG
    have k2 := at_setG hG
    clear hG f n z e I1 U1 k1
    obtain ⟨x2, y2, w2, z2⟩ : ∃ xs : List V, x1 ++ [V.bl (decide (g = 2)), V.bl (decide (g = 3)), V.bl (decide (g = 4))] = xs ∧ xs.length = 9 ∧ xs = (dueL g).take 9 := ⟨_, rfl, by rw [List.length_append, w1]; rfl, by rw [z1]; rfl⟩
    rw [y2] at k2
    clear y2 z1 w1
    walk_at "go"
    refine go_isVt I2 hC (ht 5 _ rfl) ?_
    walk_at "go"
    refine go_isVt I2 hC (ht 6 _ rfl) ?_
    walk_at "go"
    refine go_isVt I2 hC (ht 7 _ rfl) ?_
    walk_at "go"
    rename_i m J n z e' l' J' n' z' e''
    refine q _ _ ((U2.trans z).trans z') ?_
    rw [e'', z2]
    rfl
end
end T
set_option Elab.async false
set_option maxRecDepth 100000
set_option maxHeartbeats 4000000
namespace T
open PySem L2 Mv
abbrev s_kept : Stmt := top 53
theorem sc_kept : FnScope ["_law_k", "_law_e"] ["_law_k", "_law_e"] (defScope s_kept) := ⟨rfl, rfl, rfl, by decide +kernel, rfl, by decide +kernel, by decide +kernel⟩
abbrev s_ground : Stmt := top 56
theorem sc_ground : FnScope ["_law_k"] ["_law_k"] (defScope s_ground) := ⟨rfl, rfl, rfl, by decide +kernel, rfl, by decide +kernel, by decide +kernel⟩
abbrev s_dueg : Stmt := top 57
theorem sc_dueg : FnScope ["_law_ground_here", "_law_k"] ["_law_ground_here"] (defScope s_dueg) := ⟨rfl, rfl, rfl, by decide +kernel, rfl, by decide +kernel, by decide +kernel⟩
abbrev s_width : Stmt := top 58
theorem sc_width : FnScope ["_law_k"] ["_law_k"] (defScope s_width) := ⟨rfl, rfl, rfl, by decide +kernel, rfl, by decide +kernel, by decide +kernel⟩
/-- how many values an error keeps -/
def wdt (k : Nat) : Nat := if k > 39 then 0 else if k > 34 then 2 else 1
section
variable {P : Program} {w : World} {K : PySem.W.Frag} {mg : Str → Option Value} {base : Heap} {cs : List Addr}
theorem go_rep2 {H : Hp} {a : Addr} {xs : List V} {Q : VK} {k : Nat} (h : H a = some (.lst xs)) (hz : xs.length * k ≤ 100000) (q : ∀ p H', H p = none → Same H H' → H' p = some (.lst (List.replicate k xs).flatten) → Q (.ref p) H') (hk : k ≤ 1000 := by decide) : rRep (.ref a) (.int (k : Int)) H Q := by
  refine ⟨a, k, xs, rfl, rfl, h, by omega, by omega, by rw [Int.toNat_natCast]; unfold sizeLine; omega, fun p hp => q p _ hp (same_new hp) ?_⟩
  rw [upd_same, Int.toNat_natCast]
theorem kcase (k : Nat) (hk : k < 42) : (k < 29) ∨ (k = 33) ∨ (29 ≤ k ∧ k < 32) ∨ (k = 34) ∨ (k = 32) ∨ (k = 35) ∨ (36 ≤ k ∧ k < 38) ∨ (k = 38) ∨ (k = 39) ∨ (40 ≤ k) := by omega
def sp_lkept (K : PySem.W.Frag) (cs : List Addr) : Sp := fun vs H Q _ => ∃ (k : Nat) (e : Addr) (a b : V), vs = [.int (k : Int), .ref e] ∧ k < 42 ∧ ErAt cs H e k a b ∧ ErF K cs ∧ ∀ l H', Same H H' → H' l = some (.lst ([a, b].take (wdt k))) → Q (.ref l) H'
theorem c_lkept {K : PySem.W.Frag} {cs : List Addr} {k : Nat} {e : Addr} {a b : V} {H : Hp} {Q : VK} {E : XK} (h0 : k < 42) (h1 : ErAt cs H e k a b) (h2 : ErF K cs) (q : ∀ l H', Same H H' → H' l = some (.lst ([a, b].take (wdt k))) → Q (.ref l) H') : sp_lkept K cs [.int (k : Int), .ref e] H Q E := ⟨_, _, _, _, rfl, h0, h1, h2, q⟩
def sp_lground : Sp := fun vs H Q _ => ∃ (k : Nat), vs = [.int (k : Int)] ∧ Q (.int ((gnd k : Nat) : Int)) H
theorem c_lground {k : Nat} {H : Hp} {Q : VK} {E : XK}  (q : Q (.int ((gnd k : Nat) : Int)) H) : sp_lground  [.int (k : Int)] H Q E := ⟨_, rfl, q⟩
def sp_lwidth : Sp := fun vs H Q _ => ∃ (k : Nat), vs = [.int (k : Int)] ∧ Q (.int ((wdt k : Nat) : Int)) H
theorem c_lwidth {k : Nat} {H : Hp} {Q : VK} {E : XK}  (q : Q (.int ((wdt k : Nat) : Int)) H) : sp_lwidth  [.int (k : Int)] H Q E := ⟨_, rfl, q⟩
def sp_ldueg : Sp := fun vs H Q _ => ∃ (g : Nat), vs = [.int (g : Int)] ∧ g < 4 ∧ ∀ l H', Same H H' → H' l = some (.lst (dueL g)) → Q (.ref l) H'
theorem c_ldueg {g : Nat} {H : Hp} {Q : VK} {E : XK} (h0 : g < 4) (q : ∀ l H', Same H H' → H' l = some (.lst (dueL g)) → Q (.ref l) H') : sp_ldueg  [.int (g : Int)] H Q E := ⟨_, rfl, h0, q⟩
local macro_rules | `(tactic| tb_rel) => `(tactic| repeat (first
  | with_reducible assumption
  | with_reducible exact Dp.int _
  | with_reducible exact Dp.str _
  | with_reducible exact Dp.bl _
  | with_reducible exact Dp.non
  | (with_reducible apply SqT.of; with_reducible assumption)
  | (with_reducible apply SqL.of; with_reducible assumption)
  | (with_reducible apply up_dp; with_reducible assumption)
  | (with_reducible apply up_sqt; with_reducible assumption)
  | (with_reducible apply up_sql; with_reducible assumption)
  | (with_reducible apply up_get; with_reducible assumption)
  | (with_reducible apply up_pot; with_reducible assumption)
  | with_reducible exact Same.refl _
  | with_reducible exact Bu.refl _ _
  | (with_reducible apply up_same; with_reducible assumption)
  | (with_reducible apply up_bu; with_reducible assumption)
  | (with_reducible apply bu_bu; with_reducible assumption)
  | (with_reducible apply free_of; with_reducible assumption)
  | (with_reducible apply mi_fr; with_reducible assumption; (focus (tb_rel; done)))
  | (with_reducible apply mi_dp; with_reducible assumption)
  | (with_reducible apply mi_sqt; with_reducible assumption)
  | (with_reducible apply mi_sql; with_reducible assumption)
  | (with_reducible apply mi_gett; with_reducible assumption)
  | (with_reducible apply mi_getl; with_reducible assumption)
  | (with_reducible apply mi_pot; with_reducible assumption)
  | (with_reducible apply mi_refl; with_reducible assumption; (focus (with_unfolding_all exact rfl)))
  | (with_reducible apply up_mi; with_reducible assumption)
  | (with_reducible apply mi_mi; with_reducible assumption)
  | (with_reducible apply mi_bu; with_reducible assumption)
  | (with_reducible apply bu_gett; with_reducible assumption; (focus (tb_rel; done)))
  | (with_reducible apply bu_geti; with_reducible assumption; (focus (tb_rel; done)))
  | (with_reducible apply bu_get; with_reducible assumption; (focus (tlg_ne; done)))
  | (with_reducible apply bu_sqt; with_reducible assumption; (focus (tb_rel; done)))
  | (with_reducible apply bu_sql; with_reducible assumption; (focus (tlg_ne; done)))
  | (with_reducible apply bu_dp; with_reducible assumption; (focus (tb_rel; done)); (focus (lcg_src; done)))
  | fail "up"))
local macro_rules | `(tactic| tlg_ne) => `(tactic| first
  | with_reducible assumption
  | (with_reducible apply pot_ne; with_reducible assumption; (focus (tb_rel; done)))
  | fail "ne")
local macro_rules | `(tactic| lcg_src) => `(tactic| first
  | with_reducible assumption
  | with_unfolding_all exact rfl
  | with_unfolding_all decide
  | with_unfolding_all exact Nat.ne_of_beq_eq_false rfl
  | (apply_assumption; done)
  | omega
  | (simp; done)
  | (simp; omega)
  | fail "sd")
local macro_rules | `(tactic| lcg_sub) => `(tactic| first
  | (unfold sizeLine; omega)
  | (simp only [List.length_cons, List.length_nil, List.length_append, List.length_map, List.length_replicate, List.length_take, List.length_drop]; unfold sizeLine; omega)
  | (simp; unfold sizeLine; omega)
  | fail "sz")
local macro_rules | `(tactic| nest_cls) => `(tactic| first
  | (tb_rel; done)
  | (with_reducible apply nmI; (focus (tb_rel; done)))
  | (with_reducible apply d_tup; (focus (tb_rel; done)); (focus (lsm_bools; done)))
  | (with_reducible apply d_lst; (focus (tb_rel; done)); (focus (lsm_bools; done)))
  | fail "dp")
local macro_rules | `(tactic| lsm_bools) => `(tactic| repeat (first
  | with_reducible exact DpAll.nil
  | with_reducible assumption
  | (with_reducible apply DpAll.cons; (focus (nest_cls; done)))
  | fail "dpa"))
local macro_rules | `(tactic| none_booked) => `(tactic| first | with_unfolding_all exact rfl | (with_reducible apply atI_nat; with_reducible assumption) | fail "ix")
local macro_rules | `(tactic| walk_at "go") => `(tactic| repeat (first
  | (focus (with_reducible refine go_var (v := ?_) ?_ ?_; rotate_left; (focus (with_unfolding_all exact rfl))))
  | with_reducible refine go_seq ?_
  | with_reducible refine go_cN ?_
  | with_reducible refine go_c ?_
  | with_reducible refine go_op ?_
  | with_reducible refine go_nil ?_
  | with_reducible refine go_cons ?_
  | with_reducible refine go_cb ?_
  | with_reducible refine go_call0 ?_
  | with_reducible refine go_asg ?_
  | (focus (with_reducible refine go_gname (σ' := ?_) ?_ ?_; rotate_left; (focus (simp only [List.set_cons_succ, List.set_cons_zero]; exact rfl))))
  | with_reducible refine go_par ?_
  | with_reducible refine go_par3 ?_
  | (focus (with_reducible refine go_par3k (σ' := ?_) ?_ ?_; rotate_left; (focus (simp only [List.set_cons_succ, List.set_cons_zero]; exact rfl))))
  | with_reducible refine go_bm ?_
  | (with_reducible apply go_bmL; (focus (tb_rel; done)))
  | (with_reducible apply go_fdX; (focus (with_reducible assumption; done)))
  | (with_reducible apply go_rI; (focus (with_reducible assumption; done)))
  | (focus (with_reducible refine go_par2 (σ' := ?_) ?_ ?_; rotate_left; (focus (simp only [List.set_cons_succ, List.set_cons_zero]; exact rfl))))
  | with_reducible refine go_ifs ?_
  | with_reducible refine go_test ?_
  | with_reducible refine go_tb ?_
  | with_reducible refine go_asb ?_
  | with_reducible refine go_asi ?_
  | with_reducible refine go_ret ?_
  | with_reducible refine go_retn ?_
  | with_reducible refine go_drop ?_
  | with_reducible refine go_next ?_
  | with_reducible refine go_and ?_
  | with_reducible refine go_or ?_
  | with_reducible refine go_not ?_
  | with_reducible refine go_andv ?_
  | with_reducible refine go_orv ?_
  | with_reducible refine go_notv ?_
  | with_reducible refine go_ife ?_
  | with_reducible refine go_chain ?_
  | with_reducible refine go_if1 ?_
  | with_reducible refine go_if0 ?_
  | with_reducible refine go_ifn1 ?_
  | with_reducible refine go_ifn0 ?_
  | (with_reducible apply go_ift; (focus (first | with_reducible rfl | with_reducible assumption | omega)))
  | (with_reducible apply go_ifnt; (focus (first | with_reducible rfl | with_reducible assumption | omega)))
  | (with_reducible apply go_iff; (focus (first | with_reducible assumption | omega)))
  | (with_reducible apply go_ifnf; (focus (first | with_reducible assumption | omega)))
  | with_reducible refine go_un ?_
  | with_reducible refine go_tup ?_
  | with_reducible refine go_lst ?_
  | (with_reducible apply go_newt; (focus (lcg_sub; done)); intros)
  | (with_reducible apply go_newl; (focus (lcg_sub; done)); intros)
  | with_reducible refine go_meth ?_
  | with_reducible refine go_for ?_
  | with_reducible refine go_lc ?_
  | with_reducible refine go_irng1 ?_
  | with_reducible refine go_irng2 ?_
  | with_reducible refine go_ilist ?_
  | with_reducible refine go_itup ?_
  | with_reducible refine go_izip ?_
  | with_reducible refine go_ienum ?_
  | (with_reducible apply go_rg1; (focus (lcg_src; done)))
  | (with_reducible apply go_rg2; (focus (lcg_src; done)); (focus (lcg_src; done)))
  | (with_reducible apply go_lsr; (focus (tb_rel; done)))
  | (with_reducible apply go_tpr; (focus (tb_rel; done)))
  | (with_reducible apply go_zpr; (focus (tb_rel; done)); (focus (tb_rel; done)))
  | (with_reducible apply go_zprT; (focus (tb_rel; done)); (focus (tb_rel; done)))
  | (with_reducible apply go_enrL; (focus (tb_rel; done)))
  | (with_reducible apply go_enrT; (focus (tb_rel; done)))
  | with_reducible refine go_prop ?_
  | with_reducible refine go_knr0 ?_
  | (with_reducible apply go_knr; (focus (with_unfolding_all exact rfl; done)); (focus (simp only [kSw2, kRev3, kId, List.nil_append, List.cons_append]; exact rfl)))
  | with_reducible refine go_mkn ?_
  | (with_reducible apply go_mkr; (focus (tb_rel; done)); (focus (with_unfolding_all exact rfl; done)))
  | with_reducible refine go_fld ?_
  | (with_reducible apply go_flr; (focus (tb_rel; done)); (focus (with_reducible assumption; done)); (focus (with_reducible assumption; done)); (focus (with_unfolding_all exact rfl; done)))
  | (with_reducible apply go_prr; (focus (tb_rel; done)))
  | (with_reducible apply go_mer; (focus (tb_rel; done)); (focus (with_unfolding_all exact rfl; done)))
  | with_reducible refine go_sfld ?_
  | (with_reducible apply go_sfr; (focus (tb_rel; done)); (focus (with_reducible assumption; done)); (focus (with_reducible assumption; done)); (focus (with_unfolding_all exact Nat.le_of_ble_eq_true rfl; done)); (focus (with_unfolding_all exact rfl; done)); intros)
  | with_reducible refine go_revt ?_
  | with_reducible refine go_make0 ?_
  | (focus (with_reducible refine go_aug (x := ?_) ?_ ?_; rotate_left; (focus (with_unfolding_all exact rfl))))
  | (focus (with_reducible refine go_augk (σ' := ?_) ?_ ?_; rotate_left; (focus (simp only [List.set_cons_succ, List.set_cons_zero]; exact rfl))))
  | with_reducible refine go_min2 ?_
  | with_reducible refine go_int1 ?_
  | with_reducible refine go_max2 ?_
  | with_reducible refine go_intB ?_
  | with_reducible refine go_absN ?_
  | with_reducible refine go_isN ?_
  | with_reducible refine go_notN ?_
  | (with_reducible apply go_rvt; (focus (tb_rel; done)); (focus (simp only [List.reverse_cons, List.reverse_nil, List.nil_append, List.cons_append]; exact rfl)); intros)
  | (with_reducible apply go_reprNm; (focus (tb_rel; done)); (focus (with_reducible assumption; done)))
  | (with_reducible apply go_reprPr; (focus (nest_cls; done)); (focus (lcg_src; done)); (focus (lcg_src; done)))
  | with_reducible refine go_sl ?_
  | with_reducible refine go_part ?_
  | with_reducible refine go_nopart ?_
  | (with_reducible apply go_gtup; (focus (tb_rel; done)); (focus (with_unfolding_all exact rfl; done)))
  | (with_reducible apply go_gunl; (focus (tb_rel; done)); (focus (with_unfolding_all exact rfl; done)))
  | with_reducible refine go_gcons ?_
  | with_reducible refine go_gnil ?_
  | with_reducible refine go_addN ?_
  | with_reducible refine go_ltN ?_
  | with_reducible refine go_leN ?_
  | with_reducible refine go_gtN ?_
  | with_reducible refine go_geN ?_
  | (with_reducible apply go_subN; (focus (omega; done)))
  | with_reducible refine go_rI0 ?_
  | (with_reducible apply go_mulN; (focus (omega; done)))
  | (with_reducible apply go_modN; (focus (omega; done)))
  | (with_reducible apply go_divN; (focus (omega; done)))
  | (with_reducible apply go_powN; (focus (with_unfolding_all decide; done)))
  | with_reducible refine go_rU ?_
  | with_reducible refine go_eqN ?_
  | with_reducible refine go_neN ?_
  | with_reducible refine go_isB ?_
  | with_reducible refine go_notB ?_
  | with_reducible refine go_eqS ?_
  | with_reducible refine go_neS ?_
  | with_reducible refine go_eqB ?_
  | with_reducible refine go_eqI ?_
  | with_reducible refine go_neI ?_
  | (with_reducible apply go_ixt; (focus (tb_rel; done)); (focus (none_booked; done)))
  | (with_reducible apply go_ixl; (focus (tb_rel; done)); (focus (none_booked; done)))
  | (with_reducible apply go_lent; (focus (tb_rel; done)))
  | (with_reducible apply go_lenNm; (focus (tb_rel; done)))
  | (with_reducible apply go_isiNm; (focus (tb_rel; done)))
  | (with_reducible apply go_lenl; (focus (tb_rel; done)))
  | (with_reducible apply go_catA; (focus (tb_rel; done)); (focus (tb_rel; done)); (focus (lcg_sub; done)); intros)
  | (with_reducible apply go_slaT; (focus (tb_rel; done)); intros)
  | (with_reducible apply go_slaD; (focus (tb_rel; done)); intros)
  | (with_reducible apply go_rep; (focus (tb_rel; done)); (focus (lcg_src; done)); intros)
  | (with_reducible apply go_tupofl; (focus (tb_rel; done)); intros)
  | (with_reducible apply go_sllT; (focus (tb_rel; done)); intros)
  | (with_reducible apply go_sllD; (focus (tb_rel; done)); intros)
  | (with_reducible apply go_cat; (focus (tb_rel; done)); (focus (tb_rel; done)); (focus (lcg_sub; done)); intros)
  | (with_reducible apply c_ldueg; (focus (lcg_src; done)); intros)
  | (with_reducible apply c_lground; intros)
  | (with_reducible apply c_lkept; (focus (lcg_src; done)); (focus (lcg_src; done)); (focus (lcg_src; done)); intros)
  | (with_reducible apply c_lwidth; intros)
  | with_reducible refine go_ev1 ?_
  | with_reducible refine go_ev2 ?_
  | with_reducible refine go_evk ?_
  | with_reducible refine go_evf ?_
  | fail "go"))
theorem ok_kept {f : Addr} {fd : FuncData} (F : Df K "_law_kept" "_law_kept" s_kept [] f fd) (B : Blt mg) : FnOk P w K mg base CX0 3 f fd ["_law_k", "_law_e"] (sp_lkept K cs) := by
  refine dfOk F sc_kept (fun vs H Q E h => ?_) (fun cdv A outer s H vs Q E hr h => ?_)
  · obtain ⟨k, e, a, b, rfl, _⟩ := h
    rfl
  · obtain ⟨k, e, a, b, rfl, hk, hE, hF, q⟩ := h
    obtain ⟨C, hC, hX⟩ := hE.ex
    obtain ⟨xf, _, no⟩ := hF.at_ k C hC
    rw [erNm_eq k a b] at no
    rcases kcase k hk with h | h | h | h | h | h | h | h | h | h
    · have hf : erFs k a b = ([(("value" : Str), a)] : List (Str × V)) := by
        unfold erFs
        rw [if_pos (by omega)]
      have hw : wdt k = 1 := by unfold wdt; rw [if_neg (by omega), if_neg (by omega)]
      have d0 : decide (k < 29) = true := decide_eq_true (by omega)
      have d1 : decide (k = 33) = false := decide_eq_false (by omega)
      have d2 : decide (k < 32) = true := decide_eq_true (by omega)
      have d3 : decide (k = 34) = false := decide_eq_false (by omega)
      have d4 : decide (k = 32) = false := decide_eq_false (by omega)
      have d5 : decide (k = 35) = false := decide_eq_false (by omega)
      have d6 : decide (k < 38) = true := decide_eq_true (by omega)
      have d7 : decide (k = 38) = false := decide_eq_false (by omega)
      have d8 : decide (k = 39) = false := decide_eq_false (by omega)
      rcases hX with ⟨_, hX⟩ | ⟨z, _⟩
      · rw [hf] at hX no
        rw [hw] at q
        refine ⟨_, (pss_cons (ps_if (PW.pt (pw_or (pt_cmpR op_lt (pv 0) pe_int (nomark _)) (pw_or1 (pt_cmpR op_eq (pv 0) pe_int (nomark _)))))
  (pss_one (ps_ret (pe_lst (pa_cons (pe_evf (K := K) rfl (pv 1)) pa_nil))))
  pss_nil)
  (pss_cons (ps_if (PW.pt (pw_or (pt_cmpR op_lt (pv 0) pe_int (nomark _)) (pw_or1 (pt_cmpR op_eq (pv 0) pe_int (nomark _)))))
  (pss_one (ps_ret (pe_lst (pa_cons (pe_evf (K := K) rfl (pv 1)) pa_nil))))
  pss_nil)
  (pss_cons (ps_if (pt_cmpR op_eq (pv 0) pe_int (nomark _))
  (pss_one (ps_ret (pe_lst (pa_cons (pe_evf (K := K) rfl (pv 1)) pa_nil))))
  pss_nil)
  (pss_cons (ps_if (pt_cmpR op_eq (pv 0) pe_int (nomark _))
  (pss_one (ps_ret (pe_lst (pa_cons (pe_evf (K := K) rfl (pv 1)) (pa_cons (pe_evf (K := K) rfl (pv 1)) pa_nil)))))
  pss_nil)
  (pss_cons (ps_if (pt_cmpR op_lt (pv 0) pe_int (nomark _))
  (pss_one (ps_ret (pe_lst (pa_cons (pe_evf (K := K) rfl (pv 1)) (pa_cons (pe_evf (K := K) rfl (pv 1)) pa_nil)))))
  pss_nil)
  (pss_cons (ps_if (pt_cmpR op_eq (pv 0) pe_int (nomark _))
  (pss_one (ps_ret (pe_lst (pa_cons (pe_evf (K := K) rfl (pv 1)) (pa_cons (pe_evf (K := K) rfl (pv 1)) pa_nil)))))
  pss_nil)
  (pss_one (ps_ret (pe_ifExp (pt_cmpR op_eq (pv 0) pe_int (nomark _)) (pe_lst (pa_cons (pe_evf (K := K) rfl (pv 1)) (pa_cons (pe_evf (K := K) rfl (pv 1)) pa_nil))) (pe_lst pa_nil)))))))))), ?_⟩
        refine go_start (σ := [some _, some _]) rfl ?_
        walk_at "go"
        refine go_evfr hX xf (no _ (by simp)) rfl ?_
        walk_at "go"
        rename_i l J n z e
        exact q _ _ z e
      · omega
    · have hf : erFs k a b = ([(("value" : Str), a)] : List (Str × V)) := by
        unfold erFs
        rw [if_pos (by omega)]
      have hw : wdt k = 1 := by unfold wdt; rw [if_neg (by omega), if_neg (by omega)]
      have d0 : decide (k < 29) = false := decide_eq_false (by omega)
      have d1 : decide (k = 33) = true := decide_eq_true (by omega)
      have d2 : decide (k < 32) = false := decide_eq_false (by omega)
      have d3 : decide (k = 34) = false := decide_eq_false (by omega)
      have d4 : decide (k = 32) = false := decide_eq_false (by omega)
      have d5 : decide (k = 35) = false := decide_eq_false (by omega)
      have d6 : decide (k < 38) = true := decide_eq_true (by omega)
      have d7 : decide (k = 38) = false := decide_eq_false (by omega)
      have d8 : decide (k = 39) = false := decide_eq_false (by omega)
      rcases hX with ⟨_, hX⟩ | ⟨z, _⟩
      · rw [hf] at hX no
        rw [hw] at q
        refine ⟨_, (pss_cons (ps_if (PW.pt (pw_or (pt_cmpR op_lt (pv 0) pe_int (nomark _)) (pw_or1 (pt_cmpR op_eq (pv 0) pe_int (nomark _)))))
  (pss_one (ps_ret (pe_lst (pa_cons (pe_evf (K := K) rfl (pv 1)) pa_nil))))
  pss_nil)
  (pss_cons (ps_if (PW.pt (pw_or (pt_cmpR op_lt (pv 0) pe_int (nomark _)) (pw_or1 (pt_cmpR op_eq (pv 0) pe_int (nomark _)))))
  (pss_one (ps_ret (pe_lst (pa_cons (pe_evf (K := K) rfl (pv 1)) pa_nil))))
  pss_nil)
  (pss_cons (ps_if (pt_cmpR op_eq (pv 0) pe_int (nomark _))
  (pss_one (ps_ret (pe_lst (pa_cons (pe_evf (K := K) rfl (pv 1)) pa_nil))))
  pss_nil)
  (pss_cons (ps_if (pt_cmpR op_eq (pv 0) pe_int (nomark _))
  (pss_one (ps_ret (pe_lst (pa_cons (pe_evf (K := K) rfl (pv 1)) (pa_cons (pe_evf (K := K) rfl (pv 1)) pa_nil)))))
  pss_nil)
  (pss_cons (ps_if (pt_cmpR op_lt (pv 0) pe_int (nomark _))
  (pss_one (ps_ret (pe_lst (pa_cons (pe_evf (K := K) rfl (pv 1)) (pa_cons (pe_evf (K := K) rfl (pv 1)) pa_nil)))))
  pss_nil)
  (pss_cons (ps_if (pt_cmpR op_eq (pv 0) pe_int (nomark _))
  (pss_one (ps_ret (pe_lst (pa_cons (pe_evf (K := K) rfl (pv 1)) (pa_cons (pe_evf (K := K) rfl (pv 1)) pa_nil)))))
  pss_nil)
  (pss_one (ps_ret (pe_ifExp (pt_cmpR op_eq (pv 0) pe_int (nomark _)) (pe_lst (pa_cons (pe_evf (K := K) rfl (pv 1)) (pa_cons (pe_evf (K := K) rfl (pv 1)) pa_nil))) (pe_lst pa_nil)))))))))), ?_⟩
        refine go_start (σ := [some _, some _]) rfl ?_
        walk_at "go"
        refine go_evfr hX xf (no _ (by simp)) rfl ?_
        walk_at "go"
        rename_i l J n z e
        exact q _ _ z e
      · omega
    · have hf : erFs k a b = ([(("position" : Str), a)] : List (Str × V)) := by
        unfold erFs
        rw [if_neg (by omega), if_pos (by omega)]
      have hw : wdt k = 1 := by unfold wdt; rw [if_neg (by omega), if_neg (by omega)]
      have d0 : decide (k < 29) = false := decide_eq_false (by omega)
      have d1 : decide (k = 33) = false := decide_eq_false (by omega)
      have d2 : decide (k < 32) = true := decide_eq_true (by omega)
      have d3 : decide (k = 34) = false := decide_eq_false (by omega)
      have d4 : decide (k = 32) = false := decide_eq_false (by omega)
      have d5 : decide (k = 35) = false := decide_eq_false (by omega)
      have d6 : decide (k < 38) = true := decide_eq_true (by omega)
      have d7 : decide (k = 38) = false := decide_eq_false (by omega)
      have d8 : decide (k = 39) = false := decide_eq_false (by omega)
      rcases hX with ⟨_, hX⟩ | ⟨z, _⟩
      · rw [hf] at hX no
        rw [hw] at q
        refine ⟨_, (pss_cons (ps_if (PW.pt (pw_or (pt_cmpR op_lt (pv 0) pe_int (nomark _)) (pw_or1 (pt_cmpR op_eq (pv 0) pe_int (nomark _)))))
  (pss_one (ps_ret (pe_lst (pa_cons (pe_evf (K := K) rfl (pv 1)) pa_nil))))
  pss_nil)
  (pss_cons (ps_if (PW.pt (pw_or (pt_cmpR op_lt (pv 0) pe_int (nomark _)) (pw_or1 (pt_cmpR op_eq (pv 0) pe_int (nomark _)))))
  (pss_one (ps_ret (pe_lst (pa_cons (pe_evf (K := K) rfl (pv 1)) pa_nil))))
  pss_nil)
  (pss_cons (ps_if (pt_cmpR op_eq (pv 0) pe_int (nomark _))
  (pss_one (ps_ret (pe_lst (pa_cons (pe_evf (K := K) rfl (pv 1)) pa_nil))))
  pss_nil)
  (pss_cons (ps_if (pt_cmpR op_eq (pv 0) pe_int (nomark _))
  (pss_one (ps_ret (pe_lst (pa_cons (pe_evf (K := K) rfl (pv 1)) (pa_cons (pe_evf (K := K) rfl (pv 1)) pa_nil)))))
  pss_nil)
  (pss_cons (ps_if (pt_cmpR op_lt (pv 0) pe_int (nomark _))
  (pss_one (ps_ret (pe_lst (pa_cons (pe_evf (K := K) rfl (pv 1)) (pa_cons (pe_evf (K := K) rfl (pv 1)) pa_nil)))))
  pss_nil)
  (pss_cons (ps_if (pt_cmpR op_eq (pv 0) pe_int (nomark _))
  (pss_one (ps_ret (pe_lst (pa_cons (pe_evf (K := K) rfl (pv 1)) (pa_cons (pe_evf (K := K) rfl (pv 1)) pa_nil)))))
  pss_nil)
  (pss_one (ps_ret (pe_ifExp (pt_cmpR op_eq (pv 0) pe_int (nomark _)) (pe_lst (pa_cons (pe_evf (K := K) rfl (pv 1)) (pa_cons (pe_evf (K := K) rfl (pv 1)) pa_nil))) (pe_lst pa_nil)))))))))), ?_⟩
        refine go_start (σ := [some _, some _]) rfl ?_
        walk_at "go"
        refine go_evfr hX xf (no _ (by simp)) rfl ?_
        walk_at "go"
        rename_i l J n z e
        exact q _ _ z e
      · omega
    · have hf : erFs k a b = ([(("position" : Str), a)] : List (Str × V)) := by
        unfold erFs
        rw [if_neg (by omega), if_pos (by omega)]
      have hw : wdt k = 1 := by unfold wdt; rw [if_neg (by omega), if_neg (by omega)]
      have d0 : decide (k < 29) = false := decide_eq_false (by omega)
      have d1 : decide (k = 33) = false := decide_eq_false (by omega)
      have d2 : decide (k < 32) = false := decide_eq_false (by omega)
      have d3 : decide (k = 34) = true := decide_eq_true (by omega)
      have d4 : decide (k = 32) = false := decide_eq_false (by omega)
      have d5 : decide (k = 35) = false := decide_eq_false (by omega)
      have d6 : decide (k < 38) = true := decide_eq_true (by omega)
      have d7 : decide (k = 38) = false := decide_eq_false (by omega)
      have d8 : decide (k = 39) = false := decide_eq_false (by omega)
      rcases hX with ⟨_, hX⟩ | ⟨z, _⟩
      · rw [hf] at hX no
        rw [hw] at q
        refine ⟨_, (pss_cons (ps_if (PW.pt (pw_or (pt_cmpR op_lt (pv 0) pe_int (nomark _)) (pw_or1 (pt_cmpR op_eq (pv 0) pe_int (nomark _)))))
  (pss_one (ps_ret (pe_lst (pa_cons (pe_evf (K := K) rfl (pv 1)) pa_nil))))
  pss_nil)
  (pss_cons (ps_if (PW.pt (pw_or (pt_cmpR op_lt (pv 0) pe_int (nomark _)) (pw_or1 (pt_cmpR op_eq (pv 0) pe_int (nomark _)))))
  (pss_one (ps_ret (pe_lst (pa_cons (pe_evf (K := K) rfl (pv 1)) pa_nil))))
  pss_nil)
  (pss_cons (ps_if (pt_cmpR op_eq (pv 0) pe_int (nomark _))
  (pss_one (ps_ret (pe_lst (pa_cons (pe_evf (K := K) rfl (pv 1)) pa_nil))))
  pss_nil)
  (pss_cons (ps_if (pt_cmpR op_eq (pv 0) pe_int (nomark _))
  (pss_one (ps_ret (pe_lst (pa_cons (pe_evf (K := K) rfl (pv 1)) (pa_cons (pe_evf (K := K) rfl (pv 1)) pa_nil)))))
  pss_nil)
  (pss_cons (ps_if (pt_cmpR op_lt (pv 0) pe_int (nomark _))
  (pss_one (ps_ret (pe_lst (pa_cons (pe_evf (K := K) rfl (pv 1)) (pa_cons (pe_evf (K := K) rfl (pv 1)) pa_nil)))))
  pss_nil)
  (pss_cons (ps_if (pt_cmpR op_eq (pv 0) pe_int (nomark _))
  (pss_one (ps_ret (pe_lst (pa_cons (pe_evf (K := K) rfl (pv 1)) (pa_cons (pe_evf (K := K) rfl (pv 1)) pa_nil)))))
  pss_nil)
  (pss_one (ps_ret (pe_ifExp (pt_cmpR op_eq (pv 0) pe_int (nomark _)) (pe_lst (pa_cons (pe_evf (K := K) rfl (pv 1)) (pa_cons (pe_evf (K := K) rfl (pv 1)) pa_nil))) (pe_lst pa_nil)))))))))), ?_⟩
        refine go_start (σ := [some _, some _]) rfl ?_
        walk_at "go"
        refine go_evfr hX xf (no _ (by simp)) rfl ?_
        walk_at "go"
        rename_i l J n z e
        exact q _ _ z e
      · omega
    · have hf : erFs k a b = ([(("line" : Str), a)] : List (Str × V)) := by
        unfold erFs
        rw [if_neg (by omega), if_neg (by omega), if_pos (by omega)]
      have hw : wdt k = 1 := by unfold wdt; rw [if_neg (by omega), if_neg (by omega)]
      have d0 : decide (k < 29) = false := decide_eq_false (by omega)
      have d1 : decide (k = 33) = false := decide_eq_false (by omega)
      have d2 : decide (k < 32) = false := decide_eq_false (by omega)
      have d3 : decide (k = 34) = false := decide_eq_false (by omega)
      have d4 : decide (k = 32) = true := decide_eq_true (by omega)
      have d5 : decide (k = 35) = false := decide_eq_false (by omega)
      have d6 : decide (k < 38) = true := decide_eq_true (by omega)
      have d7 : decide (k = 38) = false := decide_eq_false (by omega)
      have d8 : decide (k = 39) = false := decide_eq_false (by omega)
      rcases hX with ⟨_, hX⟩ | ⟨z, _⟩
      · rw [hf] at hX no
        rw [hw] at q
        refine ⟨_, (pss_cons (ps_if (PW.pt (pw_or (pt_cmpR op_lt (pv 0) pe_int (nomark _)) (pw_or1 (pt_cmpR op_eq (pv 0) pe_int (nomark _)))))
  (pss_one (ps_ret (pe_lst (pa_cons (pe_evf (K := K) rfl (pv 1)) pa_nil))))
  pss_nil)
  (pss_cons (ps_if (PW.pt (pw_or (pt_cmpR op_lt (pv 0) pe_int (nomark _)) (pw_or1 (pt_cmpR op_eq (pv 0) pe_int (nomark _)))))
  (pss_one (ps_ret (pe_lst (pa_cons (pe_evf (K := K) rfl (pv 1)) pa_nil))))
  pss_nil)
  (pss_cons (ps_if (pt_cmpR op_eq (pv 0) pe_int (nomark _))
  (pss_one (ps_ret (pe_lst (pa_cons (pe_evf (K := K) rfl (pv 1)) pa_nil))))
  pss_nil)
  (pss_cons (ps_if (pt_cmpR op_eq (pv 0) pe_int (nomark _))
  (pss_one (ps_ret (pe_lst (pa_cons (pe_evf (K := K) rfl (pv 1)) (pa_cons (pe_evf (K := K) rfl (pv 1)) pa_nil)))))
  pss_nil)
  (pss_cons (ps_if (pt_cmpR op_lt (pv 0) pe_int (nomark _))
  (pss_one (ps_ret (pe_lst (pa_cons (pe_evf (K := K) rfl (pv 1)) (pa_cons (pe_evf (K := K) rfl (pv 1)) pa_nil)))))
  pss_nil)
  (pss_cons (ps_if (pt_cmpR op_eq (pv 0) pe_int (nomark _))
  (pss_one (ps_ret (pe_lst (pa_cons (pe_evf (K := K) rfl (pv 1)) (pa_cons (pe_evf (K := K) rfl (pv 1)) pa_nil)))))
  pss_nil)
  (pss_one (ps_ret (pe_ifExp (pt_cmpR op_eq (pv 0) pe_int (nomark _)) (pe_lst (pa_cons (pe_evf (K := K) rfl (pv 1)) (pa_cons (pe_evf (K := K) rfl (pv 1)) pa_nil))) (pe_lst pa_nil)))))))))), ?_⟩
        refine go_start (σ := [some _, some _]) rfl ?_
        walk_at "go"
        refine go_evfr hX xf (no _ (by simp)) rfl ?_
        walk_at "go"
        rename_i l J n z e
        exact q _ _ z e
      · omega
    · have hf : erFs k a b = ([(("rows" : Str), b), (("columns" : Str), a)] : List (Str × V)) := by
        unfold erFs
        rw [if_neg (by omega), if_neg (by omega), if_neg (by omega), if_pos (by omega)]
      have hw : wdt k = 2 := by unfold wdt; rw [if_neg (by omega), if_pos (by omega)]
      have d0 : decide (k < 29) = false := decide_eq_false (by omega)
      have d1 : decide (k = 33) = false := decide_eq_false (by omega)
      have d2 : decide (k < 32) = false := decide_eq_false (by omega)
      have d3 : decide (k = 34) = false := decide_eq_false (by omega)
      have d4 : decide (k = 32) = false := decide_eq_false (by omega)
      have d5 : decide (k = 35) = true := decide_eq_true (by omega)
      have d6 : decide (k < 38) = true := decide_eq_true (by omega)
      have d7 : decide (k = 38) = false := decide_eq_false (by omega)
      have d8 : decide (k = 39) = false := decide_eq_false (by omega)
      rcases hX with ⟨_, hX⟩ | ⟨z, _⟩
      · rw [hf] at hX no
        rw [hw] at q
        refine ⟨_, (pss_cons (ps_if (PW.pt (pw_or (pt_cmpR op_lt (pv 0) pe_int (nomark _)) (pw_or1 (pt_cmpR op_eq (pv 0) pe_int (nomark _)))))
  (pss_one (ps_ret (pe_lst (pa_cons (pe_evf (K := K) rfl (pv 1)) pa_nil))))
  pss_nil)
  (pss_cons (ps_if (PW.pt (pw_or (pt_cmpR op_lt (pv 0) pe_int (nomark _)) (pw_or1 (pt_cmpR op_eq (pv 0) pe_int (nomark _)))))
  (pss_one (ps_ret (pe_lst (pa_cons (pe_evf (K := K) rfl (pv 1)) pa_nil))))
  pss_nil)
  (pss_cons (ps_if (pt_cmpR op_eq (pv 0) pe_int (nomark _))
  (pss_one (ps_ret (pe_lst (pa_cons (pe_evf (K := K) rfl (pv 1)) pa_nil))))
  pss_nil)
  (pss_cons (ps_if (pt_cmpR op_eq (pv 0) pe_int (nomark _))
  (pss_one (ps_ret (pe_lst (pa_cons (pe_evf (K := K) rfl (pv 1)) (pa_cons (pe_evf (K := K) rfl (pv 1)) pa_nil)))))
  pss_nil)
  (pss_cons (ps_if (pt_cmpR op_lt (pv 0) pe_int (nomark _))
  (pss_one (ps_ret (pe_lst (pa_cons (pe_evf (K := K) rfl (pv 1)) (pa_cons (pe_evf (K := K) rfl (pv 1)) pa_nil)))))
  pss_nil)
  (pss_cons (ps_if (pt_cmpR op_eq (pv 0) pe_int (nomark _))
  (pss_one (ps_ret (pe_lst (pa_cons (pe_evf (K := K) rfl (pv 1)) (pa_cons (pe_evf (K := K) rfl (pv 1)) pa_nil)))))
  pss_nil)
  (pss_one (ps_ret (pe_ifExp (pt_cmpR op_eq (pv 0) pe_int (nomark _)) (pe_lst (pa_cons (pe_evf (K := K) rfl (pv 1)) (pa_cons (pe_evf (K := K) rfl (pv 1)) pa_nil))) (pe_lst pa_nil)))))))))), ?_⟩
        refine go_start (σ := [some _, some _]) rfl ?_
        walk_at "go"
        refine go_evfr hX xf (no _ (by simp)) rfl ?_
        walk_at "go"
        refine go_evfr hX xf (no _ (by simp)) rfl ?_
        walk_at "go"
        rename_i l J n z e
        exact q _ _ z e
      · omega
    · have hf : erFs k a b = ([(("other" : Str), b), (("one" : Str), a)] : List (Str × V)) := by
        unfold erFs
        rw [if_neg (by omega), if_neg (by omega), if_neg (by omega), if_neg (by omega), if_pos (by omega)]
      have hw : wdt k = 2 := by unfold wdt; rw [if_neg (by omega), if_pos (by omega)]
      have d0 : decide (k < 29) = false := decide_eq_false (by omega)
      have d1 : decide (k = 33) = false := decide_eq_false (by omega)
      have d2 : decide (k < 32) = false := decide_eq_false (by omega)
      have d3 : decide (k = 34) = false := decide_eq_false (by omega)
      have d4 : decide (k = 32) = false := decide_eq_false (by omega)
      have d5 : decide (k = 35) = false := decide_eq_false (by omega)
      have d6 : decide (k < 38) = true := decide_eq_true (by omega)
      have d7 : decide (k = 38) = false := decide_eq_false (by omega)
      have d8 : decide (k = 39) = false := decide_eq_false (by omega)
      rcases hX with ⟨_, hX⟩ | ⟨z, _⟩
      · rw [hf] at hX no
        rw [hw] at q
        refine ⟨_, (pss_cons (ps_if (PW.pt (pw_or (pt_cmpR op_lt (pv 0) pe_int (nomark _)) (pw_or1 (pt_cmpR op_eq (pv 0) pe_int (nomark _)))))
  (pss_one (ps_ret (pe_lst (pa_cons (pe_evf (K := K) rfl (pv 1)) pa_nil))))
  pss_nil)
  (pss_cons (ps_if (PW.pt (pw_or (pt_cmpR op_lt (pv 0) pe_int (nomark _)) (pw_or1 (pt_cmpR op_eq (pv 0) pe_int (nomark _)))))
  (pss_one (ps_ret (pe_lst (pa_cons (pe_evf (K := K) rfl (pv 1)) pa_nil))))
  pss_nil)
  (pss_cons (ps_if (pt_cmpR op_eq (pv 0) pe_int (nomark _))
  (pss_one (ps_ret (pe_lst (pa_cons (pe_evf (K := K) rfl (pv 1)) pa_nil))))
  pss_nil)
  (pss_cons (ps_if (pt_cmpR op_eq (pv 0) pe_int (nomark _))
  (pss_one (ps_ret (pe_lst (pa_cons (pe_evf (K := K) rfl (pv 1)) (pa_cons (pe_evf (K := K) rfl (pv 1)) pa_nil)))))
  pss_nil)
  (pss_cons (ps_if (pt_cmpR op_lt (pv 0) pe_int (nomark _))
  (pss_one (ps_ret (pe_lst (pa_cons (pe_evf (K := K) rfl (pv 1)) (pa_cons (pe_evf (K := K) rfl (pv 1)) pa_nil)))))
  pss_nil)
  (pss_cons (ps_if (pt_cmpR op_eq (pv 0) pe_int (nomark _))
  (pss_one (ps_ret (pe_lst (pa_cons (pe_evf (K := K) rfl (pv 1)) (pa_cons (pe_evf (K := K) rfl (pv 1)) pa_nil)))))
  pss_nil)
  (pss_one (ps_ret (pe_ifExp (pt_cmpR op_eq (pv 0) pe_int (nomark _)) (pe_lst (pa_cons (pe_evf (K := K) rfl (pv 1)) (pa_cons (pe_evf (K := K) rfl (pv 1)) pa_nil))) (pe_lst pa_nil)))))))))), ?_⟩
        refine go_start (σ := [some _, some _]) rfl ?_
        walk_at "go"
        refine go_evfr hX xf (no _ (by simp)) rfl ?_
        walk_at "go"
        refine go_evfr hX xf (no _ (by simp)) rfl ?_
        walk_at "go"
        rename_i l J n z e
        exact q _ _ z e
      · omega
    · have hf : erFs k a b = ([(("move" : Str), b), (("value" : Str), a)] : List (Str × V)) := by
        unfold erFs
        rw [if_neg (by omega), if_neg (by omega), if_neg (by omega), if_neg (by omega), if_neg (by omega), if_pos (by omega)]
      have hw : wdt k = 2 := by unfold wdt; rw [if_neg (by omega), if_pos (by omega)]
      have d0 : decide (k < 29) = false := decide_eq_false (by omega)
      have d1 : decide (k = 33) = false := decide_eq_false (by omega)
      have d2 : decide (k < 32) = false := decide_eq_false (by omega)
      have d3 : decide (k = 34) = false := decide_eq_false (by omega)
      have d4 : decide (k = 32) = false := decide_eq_false (by omega)
      have d5 : decide (k = 35) = false := decide_eq_false (by omega)
      have d6 : decide (k < 38) = false := decide_eq_false (by omega)
      have d7 : decide (k = 38) = true := decide_eq_true (by omega)
      have d8 : decide (k = 39) = false := decide_eq_false (by omega)
      rcases hX with ⟨_, hX⟩ | ⟨z, _⟩
      · rw [hf] at hX no
        rw [hw] at q
        refine ⟨_, (pss_cons (ps_if (PW.pt (pw_or (pt_cmpR op_lt (pv 0) pe_int (nomark _)) (pw_or1 (pt_cmpR op_eq (pv 0) pe_int (nomark _)))))
  (pss_one (ps_ret (pe_lst (pa_cons (pe_evf (K := K) rfl (pv 1)) pa_nil))))
  pss_nil)
  (pss_cons (ps_if (PW.pt (pw_or (pt_cmpR op_lt (pv 0) pe_int (nomark _)) (pw_or1 (pt_cmpR op_eq (pv 0) pe_int (nomark _)))))
  (pss_one (ps_ret (pe_lst (pa_cons (pe_evf (K := K) rfl (pv 1)) pa_nil))))
  pss_nil)
  (pss_cons (ps_if (pt_cmpR op_eq (pv 0) pe_int (nomark _))
  (pss_one (ps_ret (pe_lst (pa_cons (pe_evf (K := K) rfl (pv 1)) pa_nil))))
  pss_nil)
  (pss_cons (ps_if (pt_cmpR op_eq (pv 0) pe_int (nomark _))
  (pss_one (ps_ret (pe_lst (pa_cons (pe_evf (K := K) rfl (pv 1)) (pa_cons (pe_evf (K := K) rfl (pv 1)) pa_nil)))))
  pss_nil)
  (pss_cons (ps_if (pt_cmpR op_lt (pv 0) pe_int (nomark _))
  (pss_one (ps_ret (pe_lst (pa_cons (pe_evf (K := K) rfl (pv 1)) (pa_cons (pe_evf (K := K) rfl (pv 1)) pa_nil)))))
  pss_nil)
  (pss_cons (ps_if (pt_cmpR op_eq (pv 0) pe_int (nomark _))
  (pss_one (ps_ret (pe_lst (pa_cons (pe_evf (K := K) rfl (pv 1)) (pa_cons (pe_evf (K := K) rfl (pv 1)) pa_nil)))))
  pss_nil)
  (pss_one (ps_ret (pe_ifExp (pt_cmpR op_eq (pv 0) pe_int (nomark _)) (pe_lst (pa_cons (pe_evf (K := K) rfl (pv 1)) (pa_cons (pe_evf (K := K) rfl (pv 1)) pa_nil))) (pe_lst pa_nil)))))))))), ?_⟩
        refine go_start (σ := [some _, some _]) rfl ?_
        walk_at "go"
        refine go_evfr hX xf (no _ (by simp)) rfl ?_
        walk_at "go"
        refine go_evfr hX xf (no _ (by simp)) rfl ?_
        walk_at "go"
        rename_i l J n z e
        exact q _ _ z e
      · omega
    · have hf : erFs k a b = ([(("limit" : Str), b), (("what" : Str), a)] : List (Str × V)) := by
        unfold erFs
        rw [if_neg (by omega), if_neg (by omega), if_neg (by omega), if_neg (by omega), if_neg (by omega), if_neg (by omega), if_pos (by omega)]
      have hw : wdt k = 2 := by unfold wdt; rw [if_neg (by omega), if_pos (by omega)]
      have d0 : decide (k < 29) = false := decide_eq_false (by omega)
      have d1 : decide (k = 33) = false := decide_eq_false (by omega)
      have d2 : decide (k < 32) = false := decide_eq_false (by omega)
      have d3 : decide (k = 34) = false := decide_eq_false (by omega)
      have d4 : decide (k = 32) = false := decide_eq_false (by omega)
      have d5 : decide (k = 35) = false := decide_eq_false (by omega)
      have d6 : decide (k < 38) = false := decide_eq_false (by omega)
      have d7 : decide (k = 38) = false := decide_eq_false (by omega)
      have d8 : decide (k = 39) = true := decide_eq_true (by omega)
      rcases hX with ⟨_, hX⟩ | ⟨z, _⟩
      · rw [hf] at hX no
        rw [hw] at q
        refine ⟨_, (pss_cons (ps_if (PW.pt (pw_or (pt_cmpR op_lt (pv 0) pe_int (nomark _)) (pw_or1 (pt_cmpR op_eq (pv 0) pe_int (nomark _)))))
  (pss_one (ps_ret (pe_lst (pa_cons (pe_evf (K := K) rfl (pv 1)) pa_nil))))
  pss_nil)
  (pss_cons (ps_if (PW.pt (pw_or (pt_cmpR op_lt (pv 0) pe_int (nomark _)) (pw_or1 (pt_cmpR op_eq (pv 0) pe_int (nomark _)))))
  (pss_one (ps_ret (pe_lst (pa_cons (pe_evf (K := K) rfl (pv 1)) pa_nil))))
  pss_nil)
  (pss_cons (ps_if (pt_cmpR op_eq (pv 0) pe_int (nomark _))
  (pss_one (ps_ret (pe_lst (pa_cons (pe_evf (K := K) rfl (pv 1)) pa_nil))))
  pss_nil)
  (pss_cons (ps_if (pt_cmpR op_eq (pv 0) pe_int (nomark _))
  (pss_one (ps_ret (pe_lst (pa_cons (pe_evf (K := K) rfl (pv 1)) (pa_cons (pe_evf (K := K) rfl (pv 1)) pa_nil)))))
  pss_nil)
  (pss_cons (ps_if (pt_cmpR op_lt (pv 0) pe_int (nomark _))
  (pss_one (ps_ret (pe_lst (pa_cons (pe_evf (K := K) rfl (pv 1)) (pa_cons (pe_evf (K := K) rfl (pv 1)) pa_nil)))))
  pss_nil)
  (pss_cons (ps_if (pt_cmpR op_eq (pv 0) pe_int (nomark _))
  (pss_one (ps_ret (pe_lst (pa_cons (pe_evf (K := K) rfl (pv 1)) (pa_cons (pe_evf (K := K) rfl (pv 1)) pa_nil)))))
  pss_nil)
  (pss_one (ps_ret (pe_ifExp (pt_cmpR op_eq (pv 0) pe_int (nomark _)) (pe_lst (pa_cons (pe_evf (K := K) rfl (pv 1)) (pa_cons (pe_evf (K := K) rfl (pv 1)) pa_nil))) (pe_lst pa_nil)))))))))), ?_⟩
        refine go_start (σ := [some _, some _]) rfl ?_
        walk_at "go"
        refine go_evfr hX xf (no _ (by simp)) rfl ?_
        walk_at "go"
        refine go_evfr hX xf (no _ (by simp)) rfl ?_
        walk_at "go"
        rename_i l J n z e
        exact q _ _ z e
      · omega
    · have hf : erFs k a b = ([] : List (Str × V)) := by
        unfold erFs
        rw [if_neg (by omega), if_neg (by omega), if_neg (by omega), if_neg (by omega), if_neg (by omega), if_neg (by omega), if_neg (by omega)]
      have hw : wdt k = 0 := by unfold wdt; rw [if_pos (by omega)]
      have d0 : decide (k < 29) = false := decide_eq_false (by omega)
      have d1 : decide (k = 33) = false := decide_eq_false (by omega)
      have d2 : decide (k < 32) = false := decide_eq_false (by omega)
      have d3 : decide (k = 34) = false := decide_eq_false (by omega)
      have d4 : decide (k = 32) = false := decide_eq_false (by omega)
      have d5 : decide (k = 35) = false := decide_eq_false (by omega)
      have d6 : decide (k < 38) = false := decide_eq_false (by omega)
      have d7 : decide (k = 38) = false := decide_eq_false (by omega)
      have d8 : decide (k = 39) = false := decide_eq_false (by omega)
      rw [hw] at q
      refine ⟨_, (pss_cons (ps_if (PW.pt (pw_or (pt_cmpR op_lt (pv 0) pe_int (nomark _)) (pw_or1 (pt_cmpR op_eq (pv 0) pe_int (nomark _)))))
  (pss_one (ps_ret (pe_lst (pa_cons (pe_evf (K := K) rfl (pv 1)) pa_nil))))
  pss_nil)
  (pss_cons (ps_if (PW.pt (pw_or (pt_cmpR op_lt (pv 0) pe_int (nomark _)) (pw_or1 (pt_cmpR op_eq (pv 0) pe_int (nomark _)))))
  (pss_one (ps_ret (pe_lst (pa_cons (pe_evf (K := K) rfl (pv 1)) pa_nil))))
  pss_nil)
  (pss_cons (ps_if (pt_cmpR op_eq (pv 0) pe_int (nomark _))
  (pss_one (ps_ret (pe_lst (pa_cons (pe_evf (K := K) rfl (pv 1)) pa_nil))))
  pss_nil)
  (pss_cons (ps_if (pt_cmpR op_eq (pv 0) pe_int (nomark _))
  (pss_one (ps_ret (pe_lst (pa_cons (pe_evf (K := K) rfl (pv 1)) (pa_cons (pe_evf (K := K) rfl (pv 1)) pa_nil)))))
  pss_nil)
  (pss_cons (ps_if (pt_cmpR op_lt (pv 0) pe_int (nomark _))
  (pss_one (ps_ret (pe_lst (pa_cons (pe_evf (K := K) rfl (pv 1)) (pa_cons (pe_evf (K := K) rfl (pv 1)) pa_nil)))))
  pss_nil)
  (pss_cons (ps_if (pt_cmpR op_eq (pv 0) pe_int (nomark _))
  (pss_one (ps_ret (pe_lst (pa_cons (pe_evf (K := K) rfl (pv 1)) (pa_cons (pe_evf (K := K) rfl (pv 1)) pa_nil)))))
  pss_nil)
  (pss_one (ps_ret (pe_ifExp (pt_cmpR op_eq (pv 0) pe_int (nomark _)) (pe_lst (pa_cons (pe_evf (K := K) rfl (pv 1)) (pa_cons (pe_evf (K := K) rfl (pv 1)) pa_nil))) (pe_lst pa_nil)))))))))), ?_⟩
      refine go_start (σ := [some _, some _]) rfl ?_
      walk_at "go"
      rename_i l J n z e
      exact q _ _ z e
theorem ok_ground {f : Addr} {fd : FuncData} (F : Df K "_law_ground" "_law_ground" s_ground [] f fd) (B : Blt mg) : FnOk P w K mg base CX0 1 f fd ["_law_k"] sp_lground := by
  refine dfOk F sc_ground (fun vs H Q E h => ?_) (fun cdv A outer s H vs Q E hr h => ?_)
  · obtain ⟨k, rfl, _⟩ := h
    rfl
  · obtain ⟨k, rfl, q⟩ := h
    by_cases h1 : k < 33
    · have hg : gnd k = 0 := if_pos h1
      have d1 : decide (k < 33) = true := decide_eq_true h1
      rw [hg] at q
      refine ⟨_, (pss_cons (ps_if (pt_cmpR op_lt (pv 0) pe_int (nomark _))
  (pss_one (ps_ret pe_int))
  pss_nil)
  (pss_cons (ps_if (pt_cmpR op_eq (pv 0) pe_int (nomark _))
  (pss_one (ps_ret pe_int))
  pss_nil)
  (pss_one (ps_ret (pe_ifExp (pt_cmpR op_eq (pv 0) pe_int (nomark _)) pe_int pe_int))))), ?_⟩
      refine go_start (σ := [some _]) rfl ?_
      walk_at "go"
      exact q
    · have d1 : decide (k < 33) = false := decide_eq_false h1
      by_cases h2 : k = 33
      · have hg : gnd k = 1 := by unfold gnd; rw [if_neg h1, if_pos h2]
        have d2 : decide (k = 33) = true := decide_eq_true h2
        rw [hg] at q
        refine ⟨_, (pss_cons (ps_if (pt_cmpR op_lt (pv 0) pe_int (nomark _))
  (pss_one (ps_ret pe_int))
  pss_nil)
  (pss_cons (ps_if (pt_cmpR op_eq (pv 0) pe_int (nomark _))
  (pss_one (ps_ret pe_int))
  pss_nil)
  (pss_one (ps_ret (pe_ifExp (pt_cmpR op_eq (pv 0) pe_int (nomark _)) pe_int pe_int))))), ?_⟩
        refine go_start (σ := [some _]) rfl ?_
        walk_at "go"
        exact q
      · have d2 : decide (k = 33) = false := decide_eq_false h2
        by_cases h3 : k = 39
        · have hg : gnd k = 3 := by unfold gnd; rw [if_neg h1, if_neg h2, if_pos h3]
          have d3 : decide (k = 39) = true := decide_eq_true h3
          rw [hg] at q
          refine ⟨_, (pss_cons (ps_if (pt_cmpR op_lt (pv 0) pe_int (nomark _))
  (pss_one (ps_ret pe_int))
  pss_nil)
  (pss_cons (ps_if (pt_cmpR op_eq (pv 0) pe_int (nomark _))
  (pss_one (ps_ret pe_int))
  pss_nil)
  (pss_one (ps_ret (pe_ifExp (pt_cmpR op_eq (pv 0) pe_int (nomark _)) pe_int pe_int))))), ?_⟩
          refine go_start (σ := [some _]) rfl ?_
          walk_at "go"
          exact q
        · have hg : gnd k = 2 := by unfold gnd; rw [if_neg h1, if_neg h2, if_neg h3]
          have d3 : decide (k = 39) = false := decide_eq_false h3
          rw [hg] at q
          refine ⟨_, (pss_cons (ps_if (pt_cmpR op_lt (pv 0) pe_int (nomark _))
  (pss_one (ps_ret pe_int))
  pss_nil)
  (pss_cons (ps_if (pt_cmpR op_eq (pv 0) pe_int (nomark _))
  (pss_one (ps_ret pe_int))
  pss_nil)
  (pss_one (ps_ret (pe_ifExp (pt_cmpR op_eq (pv 0) pe_int (nomark _)) pe_int pe_int))))), ?_⟩
          refine go_start (σ := [some _]) rfl ?_
          walk_at "go"
          exact q
theorem ok_width {f : Addr} {fd : FuncData} (F : Df K "_law_width" "_law_width" s_width [] f fd) (B : Blt mg) : FnOk P w K mg base CX0 1 f fd ["_law_k"] sp_lwidth := by
  refine dfOk F sc_width (fun vs H Q E h => ?_) (fun cdv A outer s H vs Q E hr h => ?_)
  · obtain ⟨k, rfl, _⟩ := h
    rfl
  · obtain ⟨k, rfl, q⟩ := h
    by_cases h1 : 39 < k
    · have hg : wdt k = 0 := if_pos h1
      have d1 : decide (39 < k) = true := decide_eq_true h1
      rw [hg] at q
      refine ⟨_, (pss_cons (ps_if (pt_cmpR op_gt (pv 0) pe_int (nomark _))
  (pss_one (ps_ret pe_int))
  pss_nil)
  (pss_one (ps_ret (pe_ifExp (pt_cmpR op_gt (pv 0) pe_int (nomark _)) pe_int pe_int)))), ?_⟩
      refine go_start (σ := [some _]) rfl ?_
      walk_at "go"
      exact q
    · have d1 : decide (39 < k) = false := decide_eq_false h1
      by_cases h2 : 34 < k
      · have hg : wdt k = 2 := by unfold wdt; rw [if_neg (by omega), if_pos h2]
        have d2 : decide (34 < k) = true := decide_eq_true h2
        rw [hg] at q
        refine ⟨_, (pss_cons (ps_if (pt_cmpR op_gt (pv 0) pe_int (nomark _))
  (pss_one (ps_ret pe_int))
  pss_nil)
  (pss_one (ps_ret (pe_ifExp (pt_cmpR op_gt (pv 0) pe_int (nomark _)) pe_int pe_int)))), ?_⟩
        refine go_start (σ := [some _]) rfl ?_
        walk_at "go"
        exact q
      · have hg : wdt k = 1 := by unfold wdt; rw [if_neg (by omega), if_neg (by omega)]
        have d2 : decide (34 < k) = false := decide_eq_false h2
        rw [hg] at q
        refine ⟨_, (pss_cons (ps_if (pt_cmpR op_gt (pv 0) pe_int (nomark _))
  (pss_one (ps_ret pe_int))
  pss_nil)
  (pss_one (ps_ret (pe_ifExp (pt_cmpR op_gt (pv 0) pe_int (nomark _)) pe_int pe_int)))), ?_⟩
        refine go_start (σ := [some _]) rfl ?_
        walk_at "go"
        exact q
theorem ok_dueg {f : Addr} {fd : FuncData} (F : Df K "_law_due_grounds" "_law_due_grounds" s_dueg [] f fd) (B : Blt mg) : FnG P w K mg base 2 f fd ["_law_ground_here"] sp_ldueg := by
  refine dfG F sc_dueg (fun vs H Q E h => ?_) (fun cdv A outer s H vs Q E hr ga h => ?_)
  · obtain ⟨g, rfl, _⟩ := h
    rfl
  · obtain ⟨g, rfl, hg, q⟩ := h
    refine ⟨_, (pss_one (ps_ret (pe_op op_cat (pe_op op_rep (pe_lc (own := [("_law_k", 1)]) (by rfl) sc_dueg.nd (pi_range1 (by rfl) B.range (pa_cons pe_int pa_nil)) (blkOk_by (own := [("_law_k", 1)]) (N := ["_law_ground_here", "_law_k"]) (sc := defScope s_dueg) (by decide +kernel)) (fun _ _ _ _ _ => (pg_name (i := 1) sc_dueg.nd rfl (Or.inl rfl))) (fun _ _ _ _ _ => pts_nil) (fun _ _ _ _ _ => (pe_cmpR op_eq (pv 0) (pv 1) (nomark _)))) pe_int) (pe_op op_rep (pe_lst (pa_cons pe_bl pa_nil)) pe_int)))), ?_⟩
    refine go_start (σ := [some _, none]) rfl ?_
    walk_at "go"
    refine lcRange (K := K) (fun i => .bool (decide (g = i))) (by decide) (fun _ _ => rfl) (fun _ => rfl) (fun i H1 Q' hi s1 hq => ?_) (fun D H1 ys nD s1 eD hall => ?_)
    · walk_at "go"
      exact hq _ _ (Same.refl _) (.bl _)
    · have ey : ys = (List.range 4).map fun j => V.bl (decide (g = j)) := by
        have z : ys = ((List.range 4).map fun i => decide (g = i)).map V.bl := DpAll.boolsE (K := K) (H := H1) (by rw [List.map_map]; exact hall)
        rw [z, List.map_map]
        rfl
      walk_at "go"
      refine go_rep2 (k := 2) eD (by rw [ey]; exact Nat.le_of_ble_eq_true rfl) fun l2 H2 n2 s2 e2 => ?_
      walk_at "go"
      rename_i l3 H3 n3 s3 e3 l4 H4 n4 s4 e4
      have e2' := (s3.trans s4) _ _ e2
      refine go_cat e2' e4 (by rw [ey]; exact Nat.le_of_ble_eq_true rfl) fun l5 H5 n5 s5 e5 => ?_
      refine q _ _ ((((s1.trans s2).trans s3).trans s4).trans s5) ?_
      rw [e5, ey]
      unfold dueL
      have : ∀ g, g < 4 → ((List.range 8).map fun j => V.bl (decide (g = j))) = ((List.range 4).map fun j => V.bl (decide (g = j))) ++ List.replicate 4 (V.bl false) := by
        intro g hg
        match g, hg with
        | 0, _ => rfl
        | 1, _ => rfl
        | 2, _ => rfl
        | 3, _ => rfl
      rw [this g hg]
      simp [List.replicate]
end
end T
set_option Elab.async false
/-! mven: for i, x in enumerate(xs). -/
namespace Mv
open PySem PySem.Spec PyProof.Rows L2
theorem forEnumL {K : PySem.W.Frag} {bb : Bool} {σ : L2.St} {H : Hp} {n b c : L2.St → Hp → Prop} {rt : VK} {g : TG} {tb : TS} {a : Addr} {xs : List V} (Pv : Nat → L2.St → Hp → Prop) (h0 : Pv 0 σ H) (hG : ∀ i σ H, Pv i σ H → SqK bb K H a xs)
    (hs : ∀ (i : Nat) x T σ H H', i < xs.length → xs[i]? = some x → Pv i σ H → H T = none → Same H H' → H' T = some (.tup [.int (i : Int), x]) → g (.ref T) σ H' fun σ2 H2 => tb ⟨Pv (i + 1), rt, n, Pv (i + 1)⟩ σ2 H2) (hd : ∀ σ H, Pv xs.length σ H → n σ H) :
    ForR g tb ⟨n, rt, b, c⟩ σ (IteK bb K a) H :=
  for_it (D := ⟨n, rt, b, c⟩) walk_enumK Pv h0 (fun i σ H _ h => hG i σ H h) (fun i x σ H H' hi hp hy => by
    obtain ⟨T, x', y', rfl, hT, rfl, hx, hy⟩ := hy
    obtain rfl := Option.some.inj hx
    exact hs i y' T σ H _ hi hy hp hT (same_new hT) upd_same) hd
end Mv
set_option Elab.async false
set_option maxRecDepth 100000
set_option maxHeartbeats 4000000
/-! Comprehensions of new lists; what is shown. -/
namespace Mv
open PySem PySem.Spec PyProof.Rows L2
/-- new lists since H, none of them twice, none at D; of data without lists -/
structure NewLs (K : PySem.W.Frag) (H H' : Hp) (D : Addr) (ys : List V) (es : List (List PyData)) : Prop where
  ex : ∃ qs : List Addr, ys = qs.map V.ref ∧ qs.Nodup ∧ D ∉ qs ∧ qs.length = es.length ∧ ∀ (i : Nat) q e, qs[i]? = some q → es[i]? = some e → H q = none ∧ NLs e = true ∧ ∃ zs, H' q = some (.lst zs) ∧ DpAll K H' zs e
section
variable {K : PySem.W.Frag} {σ : L2.St} {H H' : Hp} {Q : VK} {vs : List Nat} {te : TE} {g : TG} {a D : Addr} {ys : List V} {es : List (List PyData)}
theorem NewLs.dp (h : NewLs K H H' D ys es) : DpAll K H' ys (es.map PyData.list) := by
  obtain ⟨qs, rfl, h1, h2, hl, hq⟩ := h.ex
  clear h h1 h2
  induction qs generalizing es with
  | nil =>
    cases es with
    | nil => exact .nil
    | cons _ _ => cases hl
  | cons q qs ih =>
    cases es with
    | nil => cases hl
    | cons e es =>
      obtain ⟨_, _, zs, ez, hz⟩ := hq 0 q e rfl rfl
      exact .cons (.lst (SqL.of ez) hz) (ih (Nat.succ.inj hl) fun i q' e' h1 h2 => hq (i + 1) q' e' (by simpa using h1) (by simpa using h2))
theorem lcNews {J : It} {k : Nat} {G : Hp → Prop} {Y : Nat → Hp → V → Hp → Prop} (w : Walk J k G Y) (f : Nat → List PyData) (hz : k ≤ 100000) (hl : ∀ i, i < k → NLs (f i) = true) (hG : ∀ H', Same H H' → G H')
    (hs : ∀ (i : Nat) (x : V) (H1 H2 : Hp) (Q' : VK), i < k → Same H H1 → Y i H1 x H2 → (∀ q zs H4, H1 q = none → Same H1 H4 → H4 q = some (.lst zs) → DpAll K H4 zs (f i) → Q' (.ref q) H4) → g x (wipe σ vs) H2 fun σ2 H3 => wipe σ2 vs = wipe σ vs ∧ te σ2 H3 Q')
    (hd : ∀ D H' ys, H D = none → Same H H' → H' D = some (.lst ys) → NewLs K H H' D ys ((List.range k).map f) → Q (.ref D) H') (hg : ∀ x σ' H' (P Q : L2.St → Hp → Prop), (∀ σ2 H2, P σ2 H2 → Q σ2 H2) → g x σ' H' P → g x σ' H' Q) : LcR g tYes te vs σ Q J H := by
  intro D hD
  refine lc_it w (fun i H' => i ≤ k ∧ Same H H' ∧ ∃ qs : List Addr, H' D = some (.lst (qs.map V.ref)) ∧ qs.length = i ∧ qs.Nodup ∧ D ∉ qs ∧ ∀ (j : Nat) q, qs[j]? = some q → H q = none ∧ ∃ zs, H' q = some (.lst zs) ∧ DpAll K H' zs (f j)) ⟨Nat.zero_le _, same_new hD, [], upd_same, rfl, List.nodup_nil, List.not_mem_nil, fun j q h => by simp at h⟩ (fun i H' _ h => hG H' h.2.1) ?_ ?_
  · rintro i x H1 H2 hi ⟨_, s, qs, ed, hlen, nd, nD, ha⟩ hy
    refine hg x _ H2 _ _ (fun σ2 H2 h => ⟨h.1, h.2⟩) (hs i x H1 H2 (fun y H4 => ∃ acc, H4 D = some (.lst acc) ∧ acc.length < sizeLine ∧ i + 1 ≤ k ∧ Same H (upd H4 D (.lst (acc ++ [y]))) ∧ ∃ qs : List Addr, upd H4 D (.lst (acc ++ [y])) D = some (.lst (qs.map V.ref)) ∧ qs.length = i + 1 ∧ qs.Nodup ∧ D ∉ qs ∧ ∀ (j : Nat) q, qs[j]? = some q → H q = none ∧ ∃ zs, upd H4 D (.lst (acc ++ [y])) q = some (.lst zs) ∧ DpAll K (upd H4 D (.lst (acc ++ [y]))) zs (f j)) hi s hy fun q zs H4 nq s4 eq hq => ?_)
    have e4 := s4 _ _ ed
    have hqD : q ≠ D := fun z => by rw [z, ed] at nq; cases nq
    have hqs : q ∉ qs := fun z => by
      obtain ⟨j, hj⟩ := List.getElem?_of_mem z
      obtain ⟨_, zs', e', _⟩ := ha j q hj
      rw [e'] at nq
      cases nq
    refine ⟨qs.map V.ref, e4, ?_, hi, same_over (s.trans s4) hD, qs ++ [q], by rw [upd_same, List.map_append]; rfl, by simp [hlen], ?_, ?_, fun j q' hj => ?_⟩
    · rw [List.length_map, hlen]; unfold sizeLine; omega
    · rw [List.nodup_append]
      exact ⟨nd, by simp, fun x hx y hy => by
        obtain rfl : y = q := by simpa using hy
        exact fun z => hqs (z ▸ hx)⟩
    · rw [List.mem_append]
      rintro (h | h)
      · exact nD h
      · have : D = q := by simpa using h
        exact hqD this.symm
    · have bs : Bu D H4 (upd H4 D (.lst (qs.map V.ref ++ [V.ref q]))) := Bu.set
      rcases Nat.lt_trichotomy j qs.length with c | c | c
      · rw [List.getElem?_append_left c] at hj
        obtain ⟨n', zs', e', d'⟩ := ha j q' hj
        refine ⟨n', zs', bs _ _ (fun z => nD (z ▸ List.mem_of_getElem? hj)) (s4 _ _ e'), (d'.up s4).bu (hl j (by omega)) bs e4⟩
      · subst c
        rw [List.getElem?_append_right (Nat.le_refl _), Nat.sub_self] at hj
        obtain rfl := Option.some.inj hj
        refine ⟨s.free nq, zs, bs _ _ hqD eq, ?_⟩
        rw [hlen]
        exact hq.bu (hl i hi) bs e4
      · rw [List.getElem?_eq_none (by simp; omega)] at hj
        cases hj
  · rintro H1 ⟨_, s, qs, ed, hlen, nd, nD, ha⟩
    refine hd D H1 _ hD s ed ⟨qs, rfl, nd, nD, by simp [hlen], fun i q e h1 h2 => ?_⟩
    have hi : i < k := by
      rw [← hlen]
      exact (List.getElem?_eq_some_iff.mp h1).1
    rw [List.getElem?_map, List.getElem?_range hi] at h2
    obtain rfl := Option.some.inj h2
    obtain ⟨n', zs', e', d'⟩ := ha i q h1
    exact ⟨n', hl i hi, zs', e', d'⟩
/-! what is shown -/
/-- data that repr can show -/
def Shw (d : PyData) : Prop := d.showable = true ∧ d.hasDict = false ∧ d.depth ≤ 60 ∧ d.shown.length ≤ sizeLine
theorem go_repr {v : V} {d : PyData} (h : Dp K H v d) (hs : Shw d) (hr : ∃ b, v = .ref b) (q : Q (.str d.shown) H) : rReprD K [v] H Q := by
  obtain ⟨b, rfl⟩ := hr
  exact go_reprD h hs q
end
/-- an own slot whose def needs that no repr runs -/
structure Op2G (P : Program) (w : World) (K : PySem.W.Frag) (mg : Str → Option Value) (base : Heap) (k : Nat) (C : Addr) (m : Str) (ps : List Str) (sp : Sp) : Prop where
  ex : ∃ (g : Addr) (fd : FuncData), FnG P w K mg base k g fd ps sp ∧ Binds K fd ps [] ∧ PySem.W.findIn K (.ref C) m = some (some (.ref g)) ∧ PySem.W.isFn K (.ref g) = true
section
variable {X : Cx} {k j : Nat} {C : Addr} {sp : Sp} {ps : List Str} {K : PySem.W.Frag}
theorem run_atg {A : Around} {pins : List (Addr × Obj)} {σ : L2.St} {H : Hp} {s : Shared} {Q : VK} {us : List Value} {vs : List V} {E' : Value → Shared → Prop} {g : Addr} {fd : FuncData} (F : FnG X.prog X.w X.K X.mg X.base k g fd ps sp) (hr : Room k A) (ga : GA A) (hf : A.frames = some X.stack) (hb : Binds X.K fd ps [])
    (I : Inv X pins σ H s) (r : Vals vs us) (h : sp vs H Q E0) : wpAny (model X.prog X.w) A (call (.ref g) us) (EP X pins σ Q) E' s := by
  have hl : (us ++ []).length = ps.length := by rw [List.append_nil, ← r.length]; exact F.len _ _ _ _ h
  have b := hb s us I.kIn hl
  rw [List.append_nil] at b
  have e0 := I.env0
  refine wpAny_call (codeAny_mono (F.run A X.stack s H ⟨us, []⟩ us vs Q E0 hr ga ⟨hf, e0.mod, e0.bs, e0.bsz, e0.funs, e0.frf, e0.hok, e0.bare⟩ b r h) fun r s' hq => ?_)
  cases r with
  | error e => exact False.elim hq
  | ok fl =>
    cases fl with
    | ret u => exact I.after hq
    | next => exact False.elim hq
    | brk => exact False.elim hq
    | cont => exact False.elim hq
theorem call_reprG (c : Op2G X.prog X.w X.K X.mg X.base k C "__repr__" ps sp) (hr : Room (k + 1) X.A) (ga : GA X.A) : CallR X (.builtin "repr") (rReprO C sp) := by
  obtain ⟨g, fd, F, hb, hs, hf⟩ := c.ex
  intro pins s σ H xs us Q I r h
  obtain ⟨a, dx, fs, rfl, ea, q⟩ := h
  obtain ⟨u, rfl, ru⟩ := vals1 r
  obtain rfl : u = Value.ref a := ru
  obtain ⟨mA, O, _⟩ := ins_get I.hok ea
  obtain ⟨od, J, _⟩ := O.look
  obtain ⟨m, hF⟩ := I.fr
  refine PySem.W.repr_K (by have := hr.units; show X.A.units + 1 < cLine; omega) hF I.ok.mod.kin J hs hf ?_
  refine wpAny_mono (run_atg (vs := [.ref a]) F hr.in1 (ga_in1 ga) I.ok.frames hb I (.cons rfl .nil) q) (fun w s' z => ?_) fun _ _ x => x
  obtain ⟨z', H', I', rz, y, rfl, qz⟩ := z
  obtain ⟨tk, rfl⟩ := rz
  exact ⟨.str y, H', I', ⟨_, rfl⟩, qz⟩
theorem call_reprG' {P : Program} {w : World} {mg : Str → Option Value} {base : Heap} (c : Op2G P w K mg base k C "__repr__" ps sp) (hr : Room j X.A) (ga : GA X.A) (hk : k + 1 ≤ j) (e : Over X P w K mg base := by exact ⟨rfl, rfl, rfl, rfl, rfl⟩) : CallR X (.builtin "repr") (rReprO C sp) := by
  obtain ⟨rfl, rfl, rfl, rfl, rfl⟩ := e
  exact call_reprG c (hr.mono hk) ga
/-- sep.join(xs) -/
def rJn (K : PySem.W.Frag) : V → List V → Hp → VK → Prop := fun x xs H Q => ∃ a p, ∃ ys : List Str, x = .str a ∧ xs = [.ref p] ∧ (SqL K H p (ys.map V.str) ∨ SqT K H p (ys.map V.str)) ∧ (ys.map (·.length)).sum + ys.length * a.length ≤ 16777216 ∧ Q (.str (Txt.join a ys)) H
theorem pe_join' {o e : Expr} {to te : TE} {apos pos : Pos} (ho : PE X o to) (he : PE X e te) (eK : X.K = K := by (conv => lhs; whnf)) (hs : starEach [e] X.env = [(false, eval e X.env)] := by rfl) (hbase : attributeBase o "join" X.env (eval o X.env) = eval o X.env := by rfl) (hline : (apos.endLine == pos.line) = true := by rfl) : PE X (.Call (.Attribute o "join" apos) [e] [] pos) (tM1 (rJn K) to te) := by
  subst eK
  exact pe_join ho he hs hbase hline
end
end Mv
set_option Elab.async false
set_option maxRecDepth 100000
set_option maxHeartbeats 4000000
/-! Data that is small enough to be shown. -/
namespace Mv
open PySem PySem.Spec PyProof.Rows L2
/-- at most k deep, of weight at most W -/
structure Sma (k W : Nat) (d : PyData) : Prop where
  sh : d.showable = true
  nd : d.hasDict = false
  dp : d.depth ≤ k
  lf : d.leavesShort 401 = true
  wt : d.weight ≤ W
theorem Sma.mono {k W k' W' : Nat} {d : PyData} (h : Sma k W d) (h1 : k ≤ k') (h2 : W ≤ W') : Sma k' W' d := ⟨h.sh, h.nd, Nat.le_trans h.dp h1, h.lf, Nat.le_trans h.wt h2⟩
theorem Sma.shw {k W : Nat} {d : PyData} (h : Sma k W d) (h1 : k ≤ 60) (h2 : W ≤ 40000) : Shw d := by
  refine ⟨h.sh, h.nd, Nat.le_trans h.dp h1, ?_⟩
  have := PyData.shown_le 401 (by decide) d h.lf
  have := h.wt
  unfold sizeLine
  omega
theorem Sma.len {k W : Nat} {d : PyData} (h : Sma k W d) : d.shown.length ≤ 403 * W + 403 := by
  have := PyData.shown_le 401 (by decide) d h.lf
  have := h.wt
  omega
theorem Sma.int {n : Nat} (h : n < 10 ^ 400) : Sma 0 1920 (.int (n : Int)) := by
  have l : n.log2 < 1920 := lg_lt (Nat.lt_trans h (by decide +kernel)) (by decide)
  have s : (PyData.shown (.int (n : Int))).length ≤ 401 := by
    have e := int_text_length_le10 (a := (n : Int)) (k := 400) (by decide) (by rw [Int.natAbs_natCast]; exact h)
    show (Str.ofString (toString (n : Int))).length ≤ 401
    rw [PySem.ofString_length]; exact e
  refine ⟨?_, rfl, by simp [PyData.depth], ?_, ?_⟩
  · simp only [PyData.showable, decide_eq_true_eq, Int.natAbs_natCast]
    exact l
  · simp only [PyData.leavesShort, decide_eq_true_eq]
    exact s
  · simp only [PyData.weight, Int.natAbs_natCast]
    split <;> omega
theorem Sma.bool (b : Bool) : Sma 0 0 (.bool b) := ⟨rfl, rfl, by simp [PyData.depth], rfl, by simp [PyData.weight]⟩
theorem sm_all {k W : Nat} : ∀ {ds : List PyData}, (∀ d ∈ ds, Sma k W d) → PyData.showableAll ds = true ∧ PyData.hasDictAll ds = false ∧ PyData.depthAll ds ≤ k ∧ PyData.leavesShortAll 401 ds = true ∧ PyData.weightAll ds ≤ ds.length * (W + 1)
  | [], _ => ⟨rfl, rfl, by simp [PyData.depthAll], rfl, by simp [PyData.weightAll]⟩
  | d :: ds, h => by
    obtain ⟨a, b, c, e, f⟩ := sm_all (ds := ds) fun x hx => h x (List.mem_cons_of_mem _ hx)
    have g := h d (List.mem_cons_self ..)
    refine ⟨by simp [PyData.showableAll, g.sh, a], by simp [PyData.hasDictAll, g.nd, b], ?_, by simp [PyData.leavesShortAll, g.lf, e], ?_⟩
    · simp only [PyData.depthAll]
      exact Nat.max_le.mpr ⟨g.dp, c⟩
    · simp only [PyData.weightAll, List.length_cons, Nat.add_mul, Nat.one_mul]
      have := g.wt
      omega
theorem Sma.list {k W : Nat} {ds : List PyData} (h : ∀ d ∈ ds, Sma k W d) : Sma (k + 1) (ds.length * (W + 1)) (.list ds) := by
  obtain ⟨a, b, c, e, f⟩ := sm_all h
  refine ⟨by simpa [PyData.showable] using a, by simpa [PyData.hasDict] using b, by simp only [PyData.depth]; omega, by simpa [PyData.leavesShort] using e, by simpa [PyData.weight] using f⟩
theorem Sma.tuple {k W : Nat} {ds : List PyData} (h : ∀ d ∈ ds, Sma k W d) : Sma (k + 1) (ds.length * (W + 1)) (.tuple ds) := by
  obtain ⟨a, b, c, e, f⟩ := sm_all h
  refine ⟨by simpa [PyData.showable] using a, by simpa [PyData.hasDict] using b, by simp only [PyData.depth]; omega, by simpa [PyData.leavesShort] using e, by simpa [PyData.weight] using f⟩
/-- a cut, a round, rounds -/
theorem sm_cut {c : Pm.Cut} (h : Pm.CutOk c) : Sma 1 12 (pCut c) := by
  obtain ⟨a, n⟩ := c
  have h1 : a < 2 := h.1
  have h2 : 2 ≤ n := h.2.1
  have h3 : n ≤ 4 := h.2.2
  rcases (by omega : a = 0 ∨ a = 1) with rfl | rfl <;> rcases (by omega : n = 2 ∨ n = 3 ∨ n = 4) with rfl | rfl | rfl <;> exact ⟨by decide +kernel, by decide +kernel, by decide +kernel, by decide +kernel, by decide +kernel⟩
theorem sm_rnd {r : List Pm.Cut} (h : Pm.RndOk r) : Sma 2 65 (.list (r.map pCut)) := by
  refine (Sma.list (k := 1) (W := 12) fun d hd => ?_).mono (Nat.le_refl _) ?_
  · obtain ⟨c, hc, rfl⟩ := List.mem_map.mp hd
    exact sm_cut (h.2.2.1 c hc)
  · have := h.2.1
    rw [List.length_map]
    omega
theorem sm_rds {rs : List (List Pm.Cut)} (h : Pm.RdsOk rs) : Sma 3 198 (.list (rs.map fun r => .list (r.map pCut))) := by
  refine (Sma.list (k := 2) (W := 65) fun d hd => ?_).mono (Nat.le_refl _) ?_
  · obtain ⟨r, hr, rfl⟩ := List.mem_map.mp hd
    exact sm_rnd (h.2.2.1 r hr)
  · have := h.2.1
    rw [List.length_map]
    omega
end Mv
set_option Elab.async false
set_option maxRecDepth 100000
set_option maxHeartbeats 4000000
/-! Comprehensions that keep some items. -/
namespace Mv
open PySem PySem.Spec PyProof.Rows L2
def pickB {α : Type} : List α → List Bool → List α
  | x :: xs, b :: bs => if b then x :: pickB xs bs else pickB xs bs
  | _, _ => []
theorem pickB_snoc {α : Type} : ∀ (xs : List α) (bs : List Bool) (x : α) (b : Bool), xs.length = bs.length → pickB (xs ++ [x]) (bs ++ [b]) = pickB xs bs ++ (if b then [x] else [])
  | [], [], x, b, _ => by cases b <;> rfl
  | [], _ :: _, _, _, h => by cases h
  | _ :: _, [], _, _, h => by cases h
  | y :: xs, c :: bs, x, b, h => by
    have := pickB_snoc xs bs x b (Nat.succ.inj h)
    cases c
    · simpa [pickB] using this
    · simp [pickB, this]
theorem pickB_map {α : Type} (p : α → Bool) : ∀ xs : List α, pickB xs (xs.map p) = xs.filter p
  | [] => rfl
  | x :: xs => by
    have := pickB_map p xs
    cases h : p x <;> simp [pickB, h, this]
theorem pickB_len {α : Type} : ∀ (xs : List α) (bs : List Bool), (pickB xs bs).length ≤ xs.length
  | [], _ => by simp [pickB]
  | x :: xs, [] => by simp [pickB]
  | x :: xs, b :: bs => by
    have := pickB_len xs bs
    cases b <;> simp [pickB] <;> omega
theorem pickB_mem {α : Type} {y : α} : ∀ {xs : List α} {bs : List Bool}, y ∈ pickB xs bs → ∃ i : Nat, xs[i]? = some y ∧ bs[i]? = some true
  | [], _, h => by simp [pickB] at h
  | x :: xs, [], h => by simp [pickB] at h
  | x :: xs, b :: bs, h => by
    cases b with
    | false =>
      obtain ⟨i, h1, h2⟩ := pickB_mem (xs := xs) (bs := bs) (by simpa [pickB] using h)
      exact ⟨i + 1, by simpa using h1, by simpa using h2⟩
    | true =>
      simp only [pickB, if_true, List.mem_cons] at h
      rcases h with rfl | h
      · exact ⟨0, rfl, rfl⟩
      · obtain ⟨i, h1, h2⟩ := pickB_mem (xs := xs) (bs := bs) h
        exact ⟨i + 1, by simpa using h1, by simpa using h2⟩
theorem pickB_dp {K : PySem.W.Frag} {H : Hp} : ∀ {xs : List V} {ds : List PyData} (bs : List Bool), DpAll K H xs ds → DpAll K H (pickB xs bs) (pickB ds bs)
  | [], [], _, .nil => by simp only [pickB]; exact .nil
  | _ :: _, _ :: _, [], .cons _ _ => by simp only [pickB]; exact .nil
  | _ :: _, _ :: _, b :: bs, .cons h1 h2 => by
    have := pickB_dp bs h2
    cases b
    · simpa [pickB] using this
    · simp only [pickB, if_true]
      exact .cons h1 this
section
variable {K : PySem.W.Frag} {σ : L2.St} {H : Hp} {Q : VK} {vs : List Nat} {xs : List V} {te : TE} {tt : TT} {a : Addr}
theorem lcFilV {j : Nat} (bs : List Bool) (hb : bs.length = xs.length) (ha : SqL K H a xs) (hz : xs.length ≤ 100000) (hw : ∀ x, wipe ((wipe σ vs).set j (some x)) vs = wipe σ vs)
    (ht : ∀ (i : Nat) (x : V) (b : Bool) (H1 : Hp) (R : Bool → Hp → Prop), xs[i]? = some x → bs[i]? = some b → Same H H1 → (∀ H2, Same H1 H2 → R b H2) → tt ((wipe σ vs).set j (some x)) H1 R)
    (he : ∀ (x : V) (H1 : Hp) (Q' : VK), Q' x H1 → te ((wipe σ vs).set j (some x)) H1 Q')
    (hd : ∀ D H', H D = none → Same H H' → H' D = some (.lst (pickB xs bs)) → Q (.ref D) H') : LcR (gName j) tt te vs σ Q (Itl K a) H := by
  intro D hD
  refine lc_it walk_list (fun i H' => i ≤ xs.length ∧ Same H H' ∧ H' D = some (.lst (pickB (xs.take i) (bs.take i)))) ⟨Nat.zero_le _, same_new hD, by rw [upd_same]; rfl⟩ (fun i H' _ h => h.2.1.seq ha) ?_ ?_
  · rintro i x H1 H2 hi ⟨_, s, ed⟩ ⟨rfl, hx⟩
    have hbi : i < bs.length := by omega
    have hb' : bs[i]? = some bs[i] := List.getElem?_eq_getElem hbi
    have e1 : pickB (xs.take (i + 1)) (bs.take (i + 1)) = pickB (xs.take i) (bs.take i) ++ (if bs[i] then [x] else []) := by
      rw [List.take_add_one, List.take_add_one, hx, hb']
      exact pickB_snoc _ _ _ _ (by rw [List.length_take, List.length_take]; omega)
    refine ⟨hw _, ht i x bs[i] _ _ hx hb' s fun H3 s3 => ?_⟩
    cases hbb : bs[i] with
    | false =>
      rw [hbb] at e1
      refine ⟨hi, s.trans s3, ?_⟩
      rw [e1, s3 _ _ ed]
      simp
    | true =>
      rw [hbb] at e1
      refine he x _ _ ⟨_, s3 _ _ ed, ?_, hi, same_over (s.trans s3) hD, ?_⟩
      · have := pickB_len (xs.take i) (bs.take i)
        have : (xs.take i).length ≤ xs.length := by rw [List.length_take]; omega
        unfold sizeLine; omega
      · rw [upd_same, e1]
        rfl
  · rintro H1 ⟨_, s, ed⟩
    rw [List.take_length, ← hb, List.take_length] at ed
    exact hd D H1 hD s ed
theorem go_yes {QB : Bool → Hp → Prop} (q : QB true H) : tYes σ H QB := q
end
end Mv
set_option Elab.async false
set_option maxRecDepth 100000
set_option maxHeartbeats 4000000
/-! repr of lists and tuples in which own instances lie. -/
namespace Mv
open PySem PySem.Spec PyProof.Rows L2
/-- an own instance, or a list or tuple with one in it -/
inductive Mx (K : PySem.W.Frag) (H : Hp) : V → Prop
  | own {a C dx : Addr} {fs : List (Str × V)} : H a = some (.ins C dx fs) → Mx K H (.ref a)
  | lst {a : Addr} {xs : List V} {x : V} : SqL K H a xs → x ∈ xs → Mx K H x → Mx K H (.ref a)
  | tup {a : Addr} {xs : List V} {x : V} : SqT K H a xs → x ∈ xs → Mx K H x → Mx K H (.ref a)
  | dct {a : Addr} {kvs : List (Key × V)} {kv : Key × V} : Rd H a (.dK kvs) → kv ∈ kvs → Mx K H kv.2 → Mx K H (.ref a)
theorem Mx.same {K : PySem.W.Frag} {H H' : Hp} {v : V} (s : Same H H') (h : Mx K H v) : Mx K H' v := by
  induction h with
  | own e => exact .own (s _ _ e)
  | lst e m _ ih => exact .lst (s.seq e) m ih
  | tup e m _ ih => exact .tup (Same.tup s e) m ih
  | dct e m _ ih => exact .dct (e.imp (s _ _) fun ⟨o, z⟩ => ⟨o, s _ _ z⟩) m ih
/-- an item of a dict, among its entries -/
theorem kv_item {P : Program} {w : World} : ∀ {es : List DictEntry} {vs : List (Key × Value)} {kvs : List (Key × V)} {kv : Key × V}, Pairs (mixKind P w) es vs → KV kvs vs → kv ∈ kvs → ∃ en, en ∈ es ∧ RelV kv.2 en.val
  | [], vs, kvs, kv, p, r, m => by
    cases p
    cases r
    cases m
  | en :: es, vs, kvs, kv, p, r, m => by
    cases p with
    | cons p1 p2 p =>
      cases r with
      | cons r1 r =>
        rcases List.mem_cons.mp m with rfl | m
        · exact ⟨en, List.mem_cons_self .., by rw [p2]; exact r1.2⟩
        · obtain ⟨e2, h1, h2⟩ := kv_item p r m
          exact ⟨e2, List.mem_cons_of_mem _ h1, h2⟩
section
variable {X : Cx} {pins : List (Addr × Obj)} {σ : L2.St} {H : Hp} {s : Shared}
theorem item_of {xs : List V} {its : List Value} {x : V} (r : Vals xs its) (m : x ∈ xs) : ∃ u, u ∈ its ∧ RelV x u := by
  obtain ⟨i, hi⟩ := List.mem_iff_getElem?.mp m
  obtain ⟨u, hu, ru⟩ := r.get hi
  exact ⟨u, List.mem_of_getElem? hu, ru⟩
theorem reads_item {h : Heap} {u : Value} : ∀ {vs : List Value} {ds : List PyData} {as : List Addr}, ReadsAll h vs ds as → u ∈ vs → ∃ d bs, Reads h u d bs
  | _, _, _, .nil, m => by cases m
  | _, _, _, .cons h1 h2, m => by
    rcases List.mem_cons.mp m with rfl | m
    · exact ⟨_, _, h1⟩
    · exact reads_item h2 m
/-- it is no plain data -/
theorem Mx.no (I : Inv X pins σ H s) {v : V} (h : Mx X.K H v) : ∀ {u : Value} {d : PyData} {as : List Addr}, RelV v u → Reads s.heap u d as → False := by
  induction h with
  | own e =>
    intro u d as r rd
    obtain rfl := r
    obtain ⟨_, _, _, eo, _⟩ := I.hok _ _ e
    cases rd with
    | list h1 h2 _ _ => rw [h1] at eo; cases eo; cases h2
    | tuple h1 h2 _ _ => rw [h1] at eo; cases eo; cases h2
    | dict h1 h2 _ _ _ => rw [h1] at eo; cases eo; cases h2
  | lst e m _ ih =>
    intro u d as r rd
    obtain rfl := r
    obtain ⟨its, rv, ⟨o, n, ho, hc, _, hd⟩, _⟩ := I.list e
    obtain ⟨y, my, ry⟩ := item_of rv m
    cases rd with
    | list h1 h2 h3 h4 =>
      rw [h1] at ho
      cases ho
      rw [h3] at hd
      cases hd
      obtain ⟨_, _, r2⟩ := reads_item h4 my
      exact ih ry r2
    | tuple h1 h2 h3 h4 => rw [h1] at ho; cases ho; exact absurd (h2.symm.trans hc) (by decide)
    | dict h1 h2 h3 h4 h5 => rw [h1] at ho; cases ho; rw [hd] at h3; cases h3
  | tup e m _ ih =>
    intro u d as r rd
    obtain rfl := r
    obtain ⟨its, rv, ⟨o, ho, hc, n, hd⟩, _⟩ := I.tuple e
    obtain ⟨y, my, ry⟩ := item_of rv m
    cases rd with
    | list h1 h2 h3 h4 => rw [h1] at ho; cases ho; exact absurd (h2.symm.trans hc) (by decide)
    | tuple h1 h2 h3 h4 =>
      rw [h1] at ho
      cases ho
      rw [h3] at hd
      cases hd
      obtain ⟨_, _, r2⟩ := reads_item h4 my
      exact ih ry r2
    | dict h1 h2 h3 h4 h5 => rw [h1] at ho; cases ho; rw [hd] at h3; cases h3
  | dct e m _ ih =>
    intro u d as r rd
    obtain rfl := r
    obtain ⟨_, ns, vs, r, o, es, ep, eo, hd, ed, hk, hp, _⟩ := e.ok I.hok
    obtain ⟨en, me, re⟩ := kv_item hp r m
    cases rd with
    | list h1 h2 h3 h4 => rw [h1] at eo; cases eo; exact absurd (h2.symm.trans hd.1) (by decide)
    | tuple h1 h2 h3 h4 => rw [h1] at eo; cases eo; exact absurd (h2.symm.trans hd.1) (by decide)
    | dict h1 h2 h3 h4 h5 =>
      rw [h1] at eo
      cases eo
      rw [h3] at ed
      cases ed
      obtain ⟨_, _, r2⟩ := reads_item h5 (List.mem_map_of_mem me)
      exact ih re r2
end
/-! what repr tells of a value inside of others -/
/-- the reprs under way are of no plain data -/
def GOk (K : PySem.W.Frag) (H : Hp) (g : List Code) : Prop := ∀ (id : String) (v : Value) (rest : List Value) (kw : List (Str × Value)), Code.builtin id ⟨v :: rest, kw⟩ ∈ g → ∃ b, v = .ref b ∧ Mx K H (.ref b)
theorem GOk.same {K : PySem.W.Frag} {H H' : Hp} {g : List Code} (s : Same H H') (h : GOk K H g) : GOk K H' g := fun id v rest kw m => by
  obtain ⟨b, e, x⟩ := h id v rest kw m
  exact ⟨b, e, x.same s⟩
theorem GOk.cons {K : PySem.W.Frag} {H : Hp} {g : List Code} {a : Addr} {id : String} {rest : List Value} {kw : List (Str × Value)} (h : GOk K H g) (m : Mx K H (.ref a)) : GOk K H (.builtin id ⟨.ref a :: rest, kw⟩ :: g) := fun id' v rest' kw' hm => by
  rcases List.mem_cons.mp hm with e | hm
  · cases e
    exact ⟨a, rfl, m⟩
  · exact h _ _ _ _ hm
/-- inside of other reprs the value is shown as this text, and all that is known stays -/
def Rp (X : Cx) (as : List Addr) (k : Nat) (H0 : Hp) (v : V) (t : Str) : Prop :=
  ∀ (z : Nat), z + t.length ≤ sizeLine → ∀ (A : Around) (g : List Code) (pins : List (Addr × Obj)) (σ : L2.St) (H : Hp) (s : Shared) (u : Value) (E : Value → Shared → Prop) (Q : Str → Shared → Prop),
    A.frames = some X.stack → A.guards = some g → GOk X.K H g → (∀ b ∈ as, Clear g b) → Room k A → Inv X pins σ H s → Same H0 H → RelV v u →
    (∀ H' s', Inv X pins σ H' s' → Same H H' → Q t s') → wpAny (model X.prog X.w) A (pyReprUnder z u) Q E s
section
variable {X : Cx} {as : List Addr} {k : Nat} {H0 : Hp}
theorem Rp.up {H1 : Hp} {v : V} {t : Str} (h : Rp X as k H0 v t) (s : Same H0 H1) : Rp X as k H1 v t := fun z hz A g pins σ H s' u E Q h1 h2 h3 h4 h5 h6 h7 h8 h9 => h z hz A g pins σ H s' u E Q h1 h2 h3 h4 h5 h6 (s.trans h7) h8 h9
theorem Rp.more {v : V} {t : Str} {bs : List Addr} {j : Nat} (h : Rp X as k H0 v t) (sub : ∀ b ∈ as, b ∈ bs) (hk : k ≤ j) : Rp X bs j H0 v t := fun z hz A g pins σ H s' u E Q h1 h2 h3 h4 h5 h6 h7 h8 h9 => h z hz A g pins σ H s' u E Q h1 h2 h3 (fun b m => h4 b (sub b m)) (h5.mono hk) h6 h7 h8 h9
/-- plain data -/
theorem Rp.dat {v : V} {d : PyData} (hd : Dp X.K H0 v d) (hs : Shw d) : Rp X [] k H0 v d.shown := fun z hz A g pins σ H s u E Q _ hg go _ hr I sm r q => by
  obtain ⟨s1, s2, s3, s4⟩ := hs
  obtain ⟨as, rd⟩ := (hd.up sm).reads I d v u r
  obtain ⟨bs, hb, hk⟩ := ReprK.of_reads (prog := X.prog) (w := X.w) rd s1 (fun y => absurd y (by rw [s2]; simp)) s4
  refine hk z hz A g E s Q hg (fun b mb id w rest kw m e => ?_) (by have := hr.un; omega) (fun _ _ e => e) fun h' tk kp => q H _ (I.kept kp) (fun _ _ e => e)
  obtain ⟨c, e2, mx⟩ := go id w rest kw m
  rw [e2] at e
  cases e
  obtain ⟨d', as', r', _⟩ := hb _ mb
  exact mx.no I rfl r'
/-- the own method is asked, as inside of another repr -/
theorem own_under {P : Program} {w : World} {K : PySem.W.Frag} {A : Around} {E : Value → Shared → Prop} {s : Shared} {x C : Addr} {ox : Obj} {od : Option Obj} {f : Addr} {z : Nat} {Q : Value → Shared → Prop} (ki : K.In s.heap) (hu : A.units < cLine) (J : PySem.W.InstAt s.heap x ox C od) (hs : PySem.W.findIn K (.ref C) "__repr__" = some (some (.ref f))) (hf : PySem.W.isFn K (.ref f) = true)
    (h : wpAny (model P w) A (call (.ref f) [.ref x]) (fun v s' => ∃ y t, v = .str y t ∧ Q v s') E s) : wpAny (model P w) A (pyReprObjUnder z (.ref x)) Q E s := by
  unfold pyReprObjUnder pyReprObjBy
  refine wpAny_bind (wpAny_cRoomFor hu (wpAny_bind (wpAny_bind (J.type.here ((PySem.W.looks_findIn ki hs).here ?_)))))
  show wpAny _ _ (if (some (Value.ref f)).isNone = true then _ else _) _ _ _
  rw [if_neg (by simp)]
  have fin : ∀ (R : Option Value → Shared → Prop), (∀ v s', (∃ y t, v = .str y t ∧ Q v s') → R (some v) s') → wpAny (model P w) A (call (.ref f) ([.ref x] ++ []) >>= fun v => pure (some v)) R E s := fun R hR =>
    wpAny_bind (wpAny_mono h (fun v s' y => wpAny_pure (hR v s' y)) fun _ _ y => y)
  refine wpAny_bind ?_
  simp only [callSpecialIfBoundBy?, bindSpecialIfBound?]
  refine wpAny_holding (wpAny_bind (wpAny_bind (wpAny_bind (J.type.here ((PySem.W.looks_findIn ki hs).here ?_)))))
  refine wpAny_bind (wpAny_askSetting (wpAny_ite ?_))
  split
  · refine wpAny_bind ((PySem.W.bind_fn ki _ (beq_iff_eq.mp hf)).here (wpAny_pure ?_))
    refine fin _ fun v s' y => ?_
    obtain ⟨y, t, rfl, q⟩ := y
    exact wpAny_bind (wpAny_isInstance (T := "str") (b := true) rfl isSubtype_str_str (wpAny_pure q))
  · refine wpAny_tryCatch (wpAny_bind ((PySem.W.bind_fn ki _ (beq_iff_eq.mp hf)).here (wpAny_pure ?_)))
    refine fin _ fun v s' y => ?_
    obtain ⟨y, t, rfl, q⟩ := y
    exact wpAny_bind (wpAny_isInstance (T := "str") (b := true) rfl isSubtype_str_str (wpAny_pure q))
/-- an own instance -/
theorem Rp.own {a dx C : Addr} {fs : List (Str × V)} {sp : Sp} {t : Str} (c : Op2 X.prog X.w X.K X.mg X.base k C "__repr__" sp) (ea : H0 a = some (.ins C dx fs)) (hsp : ∀ (H : Hp) (Q : VK), Same H0 H → (∀ H', Same H H' → Q (.str t) H') → sp [.ref a] H Q E0) : Rp X [] k H0 (.ref a) t := fun z hz A g pins σ H s u E Q hf _ _ _ hr I sm r q => by
  obtain ⟨gd, fd, ps, F, hb, hs, hfn⟩ := c.ex
  obtain rfl : u = Value.ref a := r
  have ea' := sm _ _ ea
  obtain ⟨mA, O, _⟩ := ins_get I.hok ea'
  obtain ⟨od, J, _⟩ := O.look
  refine wpAny_pyReprUnder_ref (by omega) (own_under I.kIn hr.units0 J hs hfn ?_)
  refine wpAny_mono (run_at (Q := fun v H' => v = .str t ∧ Same H H') (vs := [.ref a]) F hr hf hb I (.cons rfl .nil) (hsp H _ sm fun H' s' => ⟨rfl, s'⟩)) (fun v s' y => ?_) fun _ _ y => y
  obtain ⟨z', H', I', rz, rfl, s2⟩ := y
  obtain ⟨tk, rfl⟩ := rz
  exact ⟨t, tk, rfl, t, tk, rfl, q H' s' I' s2⟩
/-- room under a repr that is under way -/
structure Gd (c : Code) : Prop where
  fr : ∀ A : Around, (A.under c).frames = A.frames
  hd : ∀ A : Around, (A.under c).handled = A.handled
  dp : ∀ A : Around, (A.under c).depth = A.depth + 1
  un : ∀ A : Around, (A.under c).units = A.units + 1
  gd : c.isGuard = true
theorem Gd.room {c : Code} (h : Gd c) {A : Around} (r : Room (k + 1) A) : Room k (A.under c) := ⟨by rw [h.hd]; exact r.hd, by have := r.dp; rw [h.dp]; omega, by have := r.un; rw [h.un]; omega⟩
theorem gd_list (args : Args) : Gd (.builtin "list.__repr__.loop" args) := by
  refine ⟨fun A => ?_, fun A => ?_, fun A => ?_, fun A => ?_, isGuard_list_loop args⟩ <;> first | rfl | simp [Around.under, Code.weight, Code.isCreation, Code.isGuard, Code.isCaller, Code.frames, Code.isFrame, guardIds, Code.cUnits, Code.envs, pushEnvs]
theorem gd_tup (args : Args) : Gd (.builtin "tuple.__repr__" args) := by
  refine ⟨fun A => ?_, fun A => ?_, fun A => ?_, fun A => ?_, isGuard_tuple_repr args⟩ <;> first | rfl | simp [Around.under, Code.weight, Code.isCreation, Code.isGuard, Code.isCaller, Code.frames, Code.isFrame, guardIds, Code.cUnits, Code.envs, pushEnvs]
theorem gd_tupU (args : Args) : Gd (.builtin "tuple.__repr__.under" args) := by
  refine ⟨fun A => ?_, fun A => ?_, fun A => ?_, fun A => ?_, isGuard_tuple_repr_under args⟩ <;> first | rfl | simp [Around.under, Code.weight, Code.isCreation, Code.isGuard, Code.isCaller, Code.frames, Code.isFrame, guardIds, Code.cUnits, Code.envs, pushEnvs]
theorem strs_of : ∀ {ts : List Str} {its : List Value}, Vals (ts.map V.str) its → ∃ l : List (Str × Tok), its = strValues l ∧ l.map (·.1) = ts
  | [], _, h => by
    cases h
    exact ⟨[], rfl, rfl⟩
  | t :: ts, _, h => by
    cases h with
    | cons r h =>
      obtain ⟨k, rfl⟩ := r
      obtain ⟨l, rfl, e⟩ := strs_of h
      exact ⟨(t, k) :: l, rfl, by rw [List.map_cons, e]⟩
/-- the loop of a list's repr -/
theorem loop_rp {a L : Addr} {xs : List V} {ts : List Str} {z : Nat} {A : Around} {g : List Code} {pins : List (Addr × Obj)} {σ : L2.St} {H1 : Hp} {R : Result → Shared → Prop} (hf : A.frames = some X.stack) (hg : A.guards = some g) (hcl : ∀ b ∈ as, Clear g b) (hr : Room (k + 1) A) (na : a ∉ as) (hl : ts.length = xs.length)
    (hT : ∀ (i : Nat) (x : V), xs[i]? = some x → ∃ t, ts[i]? = some t ∧ Rp X as k H0 x t) (hz : z + (listText ts).length ≤ sizeLine) (s01 : Same H0 H1) (hL : H1 L = none) (hs : SqL X.K H1 a xs) (mx : Mx X.K H1 (.ref a)) (go : GOk X.K H1 g)
    (hR : ∀ H' s' u, Inv X pins σ H' s' → Same H1 H' → R (.ok (.ret (.str (listText ts) u))) s') : ∀ (n i : Nat) (s : Shared) (H : Hp), xs.length - i = n → i ≤ xs.length → Inv X pins σ H s → Same H1 H → H L = some (.lst ((ts.take i).map V.str)) →
    codeAny (model X.prog X.w) A (.builtin "list.__repr__.loop" ⟨[.ref a, rawInt i, .ref L, rawInt ((z + piled (ts.take i) : Nat) : Int)], []⟩) R s := by
  have tl : (listText ts).length = (textFrom 0 "[" ts).length + 1 := by
    unfold listText
    rw [strLen_append]
    rfl
  obtain ⟨l1, l2, _⟩ := textFrom_len ts 0 "["
  have l4 := piled_le_listText ts
  have szt : ∀ t ∈ ts, t.length ≤ sizeLine := fun t ht => by
    have := l2 t ht
    omega
  have sz1 : xs.length ≤ sizeLine := by
    rw [if_neg (Nat.lt_irrefl 0)] at l1
    omega
  intro n
  induction n with
  | zero =>
    intro i s H hn hi I sm eL
    have ei : i = ts.length := by omega
    obtain ⟨its, rv, ⟨o, m, ho, hc, _, hd⟩, _⟩ := I.list (sm.seq hs)
    obtain ⟨_, itl, m2, rl, ll, el⟩ := I.lstM eL
    rw [ei, List.take_length] at rl
    obtain ⟨l, rfl, e2⟩ := strs_of rl
    refine codeAny_builtin F.entry_list_repr_loop ?_
    show wpAny _ _ (Builtin.«list.__repr__.loop» ⟨[.ref a, .int i 0, .ref L, .int ((z + piled (ts.take i) : Nat) : Int) 0], []⟩) _ _ s
    rw [repr_loop_tree]
    refine wpAny_bind (wpAny_listItems ho hd ?_)
    have e0 : its.toArray[(i : Int).toNat]? = none := by
      have := rv.length
      simp
      omega
    simp only [e0]
    unfold reprEnd
    refine wpAny_bind (wpAny_listItems el rfl ?_)
    show wpAny _ _ (forIn ((strValues l).zipIdx) ("[" : Str) reprBody >>= _) _ _ _
    rw [repr_fold, e2]
    exact wpAny_bind (wpAny_pure (wpAny_bind (wpAny_mkStr (wpAny_pure (hR H _ _ (I.tok _) sm)) (show (listText ts).length ≤ sizeLine by omega))))
  | succ n ih =>
    intro i s H hn hi I sm eL
    have lt : i < xs.length := by omega
    obtain ⟨t, ht, hx⟩ := hT i xs[i] (List.getElem?_eq_getElem lt)
    obtain ⟨its, rv, ⟨o, m, ho, hc, _, hd⟩, _⟩ := I.list (sm.seq hs)
    obtain ⟨u, hu, ru⟩ := rv.get (List.getElem?_eq_getElem lt)
    have p1 := piled_take_succ ht
    have p2 := piled_take_le ts (i + 1)
    refine codeAny_builtin F.entry_list_repr_loop ?_
    show wpAny _ _ (Builtin.«list.__repr__.loop» ⟨[.ref a, .int i 0, .ref L, .int ((z + piled (ts.take i) : Nat) : Int) 0], []⟩) _ _ s
    rw [repr_loop_tree]
    refine wpAny_bind (wpAny_listItems ho hd ?_)
    have e0 : its.toArray[(i : Int).toNat]? = some u := by simpa using hu
    simp only [e0]
    rw [Int.toNat_natCast]
    have G := gd_list ⟨[.ref a, rawInt i, .ref L, rawInt ((z + piled (ts.take i) : Nat) : Int)], []⟩
    refine wpAny_bind (wpAny_holding (hx (z + piled (ts.take i) + 1) (by omega) _ _ pins σ H s u _ _ (by rw [G.fr]; exact hf) (guards_under_guard G.gd hg) ((go.same sm).cons (mx.same sm)) (fun b mb => (hcl b mb).cons fun e => na (e ▸ mb)) (G.room hr) I (s01.trans sm) ru fun H2 s2 I2 s12 => ?_))
    refine wpAny_bind (wpAny_mkStr ?_ (szt t (List.mem_of_getElem? ht)))
    have e2 := s12 _ _ eL
    obtain ⟨zl, itl, m2, rl, ll, el⟩ := I2.lstM e2
    refine wpAny_bind ?_
    show wpAny _ _ (updateSeq L _) _ _ _
    refine wpAny_updateSeq (s := { s2 with toks := s2.toks + 1 }) el rfl (wpAny_pure ⟨F.quiet_list_repr_loop _, ?_⟩) (by rw [List.size_toArray, ← ll]; exact zl)
    have e3 : (ts.take i).map V.str ++ [V.str t] = (ts.take (i + 1)).map V.str := by rw [List.take_add_one, ht, List.map_append]; rfl
    have I3 := I2.lset (ys := (ts.take (i + 1)).map V.str) (f := fun q => q.push (.str t s2.toks)) (t' := s2.toks + 1) e2 el (its' := itl ++ [.str t s2.toks]) (by simp) (by rw [← e3]; exact rl.append (.cons ⟨_, rfl⟩ .nil)) (by rw [List.length_map, List.length_take]; omega)
    have h4 : ((i : Int) + 1) = ((i + 1 : Nat) : Int) := by omega
    have h5 : z + piled (ts.take i) + (t.length + 2) = z + piled (ts.take (i + 1)) := by omega
    rw [h4, h5]
    exact ih (i + 1) _ _ (by omega) lt I3 (same_over (sm.trans s12) hL) upd_same
/-- what is asked of a list with own instances in it -/
structure LsRp (X : Cx) (as : List Addr) (k : Nat) (H0 : Hp) (a : Addr) (ts : List Str) : Prop where
  ex : ∃ xs : List V, xs ≠ [] ∧ SqL X.K H0 a xs ∧ (∃ x ∈ xs, Mx X.K H0 x) ∧ ts.length = xs.length ∧ ∀ (i : Nat) (x : V), xs[i]? = some x → ∃ t, ts[i]? = some t ∧ Rp X as k H0 x t
  na : a ∉ as
theorem at_list {a : Addr} {ts : List Str} {z : Nat} {A : Around} {g : List Code} {pins : List (Addr × Obj)} {σ : L2.St} {H : Hp} {s : Shared} {E : Value → Shared → Prop} {Q : Value → Shared → Prop} (h : LsRp X as k H0 a ts) (hz : z + (listText ts).length ≤ sizeLine) (hf : A.frames = some X.stack) (hg : A.guards = some g) (go : GOk X.K H g) (hcl : ∀ b ∈ a :: as, Clear g b) (hr : Room (k + 1) A) (I : Inv X pins σ H s) (sm : Same H0 H)
    (q : ∀ H' s' u, Inv X pins σ H' s' → Same H H' → Q (.str (listText ts) u) s') : wpAny (model X.prog X.w) A.in1 (Builtin.listReprAt z ⟨[.ref a], []⟩) (fun fin s' => match fin with | .done f => callEnd Q E (.ok f) s' | .again c' => c'.quiet = true ∧ codeAny (model X.prog X.w) A c' (callEnd Q E) s') (fun e s' => callEnd Q E (.error e) s') s := by
  obtain ⟨xs, hne, hs, ⟨x, mx, hx⟩, hl, hT⟩ := h.ex
  obtain ⟨its, rv, ⟨o, m, ho, hc, _, hd⟩, _⟩ := I.list (sm.seq hs)
  have hca := hcl a (List.mem_cons_self ..)
  cases its with
  | nil =>
    cases rv
    exact absurd rfl hne
  | cons y l =>
    refine wpAny_list_repr_head (A := A.in1) hg (fun v rest kw m => listSameRef_of_ne (hca _ _ _ _ m)) ho hd ?_
    refine wpAny_bind (m := newList []) (wpAny_newObj_type (wpAny_pure ⟨F.quiet_list_repr_loop _, ?_⟩))
    have hL : H s.heap.objs.size = none := I.hok.fresh (Nat.le_refl _)
    refine loop_rp (L := s.heap.objs.size) (pins := pins) (σ := σ) (H1 := H) hf hg (fun b mb => hcl b (List.mem_cons_of_mem _ mb)) hr h.na hl hT hz sm hL (sm.seq hs) (.lst (sm.seq hs) mx (hx.same sm)) go (fun H' s' u I' s2 => q H' s' u I' s2) _ 0 _ (upd H s.heap.objs.size (.lst [])) rfl (Nat.zero_le _) ?_ (same_new hL) upd_same
    exact I.laid (t' := s.toks) (fun b u e => Heap.get?_push_of_some _ e) (Nat.le_refl _) ⟨Nat.zero_le _, [], _, .nil, Heap.get?_push_size _ rfl⟩
theorem Rp.lst {a : Addr} {ts : List Str} (h : LsRp X as k H0 a ts) : Rp X (a :: as) (k + 1) H0 (.ref a) (listText ts) := fun z hz A g pins σ H s u E Q hf hg go hcl hr I sm r q => by
  obtain rfl : u = Value.ref a := r
  obtain ⟨xs, _, hs, _⟩ := h.ex
  obtain ⟨its, rv, ⟨o, m, ho, hc, _, hd⟩, _⟩ := I.list (sm.seq hs)
  refine wpAny_pyReprUnder_ref (by omega) (wpAny_pyReprObjUnder_twin (twin := "list.__repr__.under") ⟨o, ho, hc⟩ F.slot_list_repr.toG rfl hr.units0 ?_)
  exact call_twin_plain F.plain_list_repr_under F.entry_list_repr_under F.check_list_repr_under ⟨o, ho, hc⟩ F.slot_list_repr.toG (F.args_list_repr_1 _) (at_list h hz hf hg go hcl hr I sm fun H' s' t I' s2 => ⟨⟨_, _, rfl⟩, _, _, rfl, q H' s' I' s2⟩)
/-- the items of a tuple, each with its text -/
inductive RpL (X : Cx) (as : List Addr) (k : Nat) (H0 : Hp) : List V → List Str → Prop
  | nil : RpL X as k H0 [] []
  | cons {x : V} {t : Str} {xs : List V} {ts : List Str} : Rp X as k H0 x t → RpL X as k H0 xs ts → RpL X as k H0 (x :: xs) (t :: ts)
theorem RpL.len : ∀ {xs : List V} {ts : List Str}, RpL X as k H0 xs ts → ts.length = xs.length
  | _, _, .nil => rfl
  | _, _, .cons _ h => by simp [h.len]
theorem RpL.get : ∀ {xs : List V} {ts : List Str} {i : Nat} {x : V}, RpL X as k H0 xs ts → xs[i]? = some x → ∃ t, ts[i]? = some t ∧ Rp X as k H0 x t
  | _, _, 0, _, .cons (t := t) r _, e => by
    cases e
    exact ⟨t, rfl, r⟩
  | _, _, i + 1, _, .cons _ h, e => by
    obtain ⟨t, h1, h2⟩ := h.get (i := i) e
    exact ⟨t, h1, h2⟩
theorem fold_rp {A : Around} {g : List Code} {pins : List (Addr × Obj)} {σ : L2.St} {E : Value → Shared → Prop} (hf : A.frames = some X.stack) (hg : A.guards = some g) (hcl : ∀ b ∈ as, Clear g b) (hr : Room k A) : ∀ (l : List Value) (xs : List V) (ts : List Str) (acc : Array Str) (n : Nat) (s : Shared) (H : Hp) (Q : Array Str × Nat → Shared → Prop), Vals xs l → RpL X as k H0 xs ts → n + piled ts ≤ sizeLine → Inv X pins σ H s → Same H0 H → GOk X.K H g →
    (∀ H' s', Inv X pins σ H' s' → Same H H' → Q ⟨acc ++ ts.toArray, n + piled ts⟩ s') → wpAny (model X.prog X.w) A (forIn l (⟨acc, n⟩ : Array Str × Nat) tupBody) Q E s := by
  intro l
  induction l with
  | nil =>
    intro xs ts acc n s H Q r h _ I sm go q
    cases r
    cases h
    have := q H s I (fun _ _ e => e)
    rw [List.forIn_nil]
    exact wpAny_pure (by simpa [piled] using this)
  | cons y l ih =>
    intro xs ts acc n s H Q r h hn I sm go q
    cases r with
    | cons r1 r =>
      cases h with
      | cons hx h =>
        rename_i t ts
        rw [piled_cons] at hn
        rw [List.forIn_cons]
        refine wpAny_bind (wpAny_bind (hx (n + 1) (by omega) A g pins σ H s y _ _ hf hg go hcl hr I sm r1 fun H2 s2 I2 s12 => wpAny_pure ?_))
        refine ih _ ts (acc.push t) (n + (t.length + 2)) s2 H2 Q r h (by omega) I2 (sm.trans s12) (go.same s12) fun H3 s3 I3 s23 => ?_
        have := q H3 s3 I3 (s12.trans s23)
        rw [piled_cons, ← Nat.add_assoc] at this
        simpa using this
/-- what is asked of a tuple with own instances in it -/
structure TpRp (X : Cx) (as : List Addr) (k : Nat) (H0 : Hp) (a : Addr) (ts : List Str) : Prop where
  ex : ∃ xs : List V, SqT X.K H0 a xs ∧ (∃ x ∈ xs, Mx X.K H0 x) ∧ RpL X as k H0 xs ts
  na : a ∉ as
theorem at_tup {a : Addr} {ts : List Str} {z : Nat} {A : Around} {g : List Code} {pins : List (Addr × Obj)} {σ : L2.St} {H : Hp} {s : Shared} {E : Value → Shared → Prop} {Q : Value → Shared → Prop} {id : String} {rest : List Value} (G : Gd (.builtin id ⟨.ref a :: rest, []⟩)) (h : TpRp X as k H0 a ts) (hz : z + (tupleText ts).length ≤ sizeLine) (hf : A.frames = some X.stack) (hg : A.guards = some g) (go : GOk X.K H g) (hcl : ∀ b ∈ a :: as, Clear g b) (hr : Room (k + 1) A) (I : Inv X pins σ H s) (sm : Same H0 H)
    (q : ∀ H' s' u, Inv X pins σ H' s' → Same H H' → Q (.str (tupleText ts) u) s') : wpOwn (model X.prog X.w) A (.builtin id ⟨.ref a :: rest, []⟩) (Builtin.tupleReprAt z ⟨[.ref a], []⟩) (fun fin s' => match fin with | .done f => callEnd Q E (.ok f) s' | .again c' => c'.quiet = true ∧ codeAny (model X.prog X.w) A c' (callEnd Q E) s') (fun e s' => callEnd Q E (.error e) s') s := by
  obtain ⟨xs, hs, ⟨x, mx, hx⟩, hT⟩ := h.ex
  obtain ⟨its, rv, ⟨o, ho, hc, m, hd⟩, _⟩ := I.tuple (sm.tup hs)
  have hca := hcl a (List.mem_cons_self ..)
  have ll : ts.length = its.length := by rw [hT.len, rv.length]
  have l4 := piled_le_tupleText ts
  rw [tuple_repr_tree, tupleReprUnderWay_eq]
  refine wpOwn_bind (wpOwn_stackTailAny hg (tupGuardF_off _) (tupGuardF_pos _) ?_)
  rw [show (g.any fun c => tupGuardF (.ref a) (c, default)) = false from List.any_eq_false.mpr fun c mc => by rw [tupGuardF_of_clear hca c mc]; exact Bool.false_ne_true]
  refine wpOwn_of_wpAny ?_
  show wpAny _ _ (tupleReprRest z (.ref a)) _ _ s
  unfold tupleReprRest Builtin.Tuple.tupleItemsOf
  refine wpAny_bind (wpAny_bind (wpAny_seqItems ho hd (wpAny_pure ?_)))
  rw [← Array.forIn_toList]
  have mt : Mx X.K H (.ref a) := .tup (sm.tup hs) mx (hx.same sm)
  refine wpAny_bind (fold_rp (by rw [G.fr]; exact hf) (guards_under_guard G.gd hg) (fun b mb => (hcl b (List.mem_cons_of_mem _ mb)).cons fun e => h.na (e ▸ mb)) (G.room hr) _ xs ts _ _ s H _ rv hT (by omega) I sm (go.cons mt) fun H2 s2 I2 s12 => ?_)
  refine wpAny_bind (wpAny_mkStr (wpAny_pure ?_) (by simpa [tupleText, ll] using (show (tupleText ts).length ≤ sizeLine by omega)))
  have := q H2 _ s2.toks (I2.tok (s2.toks + 1)) s12
  simpa [tupleText, ll] using this
theorem Rp.tup {a : Addr} {ts : List Str} (h : TpRp X as k H0 a ts) : Rp X (a :: as) (k + 1) H0 (.ref a) (tupleText ts) := fun z hz A g pins σ H s u E Q hf hg go hcl hr I sm r q => by
  obtain rfl : u = Value.ref a := r
  obtain ⟨xs, hs, _⟩ := h.ex
  obtain ⟨its, rv, ⟨o, ho, hc, m, hd⟩, _⟩ := I.tuple (sm.tup hs)
  refine wpAny_pyReprUnder_ref (by omega) (wpAny_pyReprObjUnder_twin (twin := "tuple.__repr__.under") ⟨o, ho, hc⟩ F.slot_tuple_repr rfl hr.units0 ?_)
  exact call_twin_own (F.quiet_tuple_repr_under _) F.entry_tuple_repr_under F.check_tuple_repr_under ⟨o, ho, hc⟩ F.slot_tuple_repr (F.args_tuple_repr_1 _) (at_tup (gd_tupU _) h hz hf hg go hcl hr I sm fun H' s' t I' s2 => ⟨⟨_, _, rfl⟩, _, _, rfl, q H' s' I' s2⟩)
/-- asked at the top: no repr is under way -/
def Rt (X : Cx) (k : Nat) (H0 : Hp) (v : V) (t : Str) : Prop :=
  ∀ (A : Around) (pins : List (Addr × Obj)) (σ : L2.St) (H : Hp) (s : Shared) (u : Value) (E Q : Value → Shared → Prop), A.frames = some X.stack → A.guards = some [] → Room (k + 1) A → Inv X pins σ H s → Same H0 H → RelV v u →
    (∀ H' s' tk, Inv X pins σ H' s' → Same H H' → Q (.str t tk) s') → wpAny (model X.prog X.w) A (call (.builtin "repr") [u]) Q E s
theorem gok_nil {K : PySem.W.Frag} {H : Hp} : GOk K H [] := fun _ _ _ _ m => by simp at m
theorem Rt.lst {a : Addr} {ts : List Str} (h : LsRp X as k H0 a ts) (hz : (listText ts).length ≤ sizeLine) : Rt X (k + 1) H0 (.ref a) (listText ts) := fun A pins σ H s u E Q hf hg hr I sm r q => by
  obtain rfl : u = Value.ref a := r
  obtain ⟨xs, _, hs, _⟩ := h.ex
  obtain ⟨its, rv, ⟨o, m, ho, hc, _, hd⟩, _⟩ := I.list (sm.seq hs)
  have r1 : Room (k + 1) A.in1 := hr.in1
  refine call_repr_slot (by have := r1.units0; exact this) ⟨o, ho, hc⟩ F.slot_list_repr.toG (wpAny_call (codeAny_call_builtin F.slot_list_repr.plain F.entry_list_repr (F.slot_list_repr.check _ _ _ _ _ _ _ _ ⟨o, ho, hc⟩ (F.args_list_repr_1 _) ?_)))
  exact at_list (A := A.in1) (z := 0) h (by omega) hf hg gok_nil (fun b _ => Clear.nil b) r1 I sm fun H' s' t I' s2 => ⟨_, _, rfl, q H' s' t I' s2⟩
theorem Rt.tup {a : Addr} {ts : List Str} (h : TpRp X as k H0 a ts) (hz : (tupleText ts).length ≤ sizeLine) : Rt X (k + 1) H0 (.ref a) (tupleText ts) := fun A pins σ H s u E Q hf hg hr I sm r q => by
  obtain rfl : u = Value.ref a := r
  obtain ⟨xs, hs, _⟩ := h.ex
  obtain ⟨its, rv, ⟨o, ho, hc, m, hd⟩, _⟩ := I.tuple (sm.tup hs)
  have r1 : Room (k + 1) A.in1 := hr.in1
  refine call_repr_slot (by have := r1.units0; exact this) ⟨o, ho, hc⟩ F.slot_tuple_repr (wpAny_call (codeAny_call_builtin_own (Code.quiet_builtin _ (by decide +kernel)) F.entry_tuple_repr (F.slot_tuple_repr.check _ _ _ _ _ _ _ _ ⟨o, ho, hc⟩ (F.args_tuple_repr_1 _) ?_)))
  exact at_tup (A := A.in1) (z := 0) (gd_tup _) h (by omega) hf hg gok_nil (fun b _ => Clear.nil b) r1 I sm fun H' s' t I' s2 => ⟨_, _, rfl, q H' s' t I' s2⟩
end
/-! dicts of texts and whole numbers, their values no containers -/
def scD : V → Option PyData
  | .int i => some (.int i)
  | .str x => some (.str x)
  | .bl b => some (.bool b)
  | .non => some .none
  | _ => none
def kyD : Key → PyData
  | .inl i => .int i
  | .inr x => .str x
theorem sc_reads {h : Heap} {v : V} {u : Value} {d : PyData} (e : scD v = some d) (r : RelV v u) : Reads h u d [] := by
  cases v with
  | int i =>
    cases e
    obtain ⟨t, rfl⟩ := r
    exact .int i t
  | str x =>
    cases e
    obtain ⟨t, rfl⟩ := r
    exact .str x t
  | bl b =>
    cases e
    cases r
    exact .bool b
  | non =>
    cases e
    cases r
    exact .none
  | _ => cases e
section
variable {X : Cx} {pins : List (Addr × Obj)} {σ : L2.St} {H : Hp} {s : Shared}
theorem ents_read {P : Program} {w : World} {h : Heap} : ∀ {es : List DictEntry} {vs : List (Key × Value)} {kvs : List (Key × V)} {ds : List PyData}, Pairs (mixKind P w) es vs → KV kvs vs → kvs.map (fun p => scD p.2) = ds.map some → ReadsAll h (es.map (·.key)) (kvs.map fun p => kyD p.1) [] ∧ ReadsAll h (es.map (·.val)) ds []
  | [], vs, kvs, ds, p, r, e => by
    cases p
    cases r
    cases ds with
    | nil => exact ⟨.nil, .nil⟩
    | cons _ _ => cases e
  | en :: es, vs, kvs, ds, p, r, e => by
    cases p with
    | cons p1 p2 p =>
      cases r with
      | cons r1 r =>
        rename_i y vs x kvs
        cases ds with
        | nil => cases e
        | cons d ds =>
          rw [List.map_cons, List.map_cons, List.cons.injEq] at e
          obtain ⟨h1, h2⟩ := ents_read (h := h) p r e.2
          refine ⟨?_, ?_⟩
          · rw [List.map_cons, List.map_cons]
            refine ReadsAll.cons (as := []) (bs := []) ?_ h1
            rw [r1.1]
            obtain ⟨i, t, e1, e2⟩ | ⟨i, t, e1, e2⟩ := keyIs_shape (show keyIs _ _ = true from p1)
            · rw [e1, e2]
              exact .int i t
            · rw [e1, e2]
              exact .str i t
          · rw [List.map_cons]
            refine ReadsAll.cons (as := []) (bs := []) ?_ h2
            rw [p2]
            exact sc_reads e.1 r1.2
theorem dict_read {a : Addr} {kvs : List (Key × V)} {ds : List PyData} (I : Inv X pins σ H s) (e : H a = some (.dK kvs)) (hs : kvs.map (fun p => scD p.2) = ds.map some) : Reads s.heap (.ref a) (.dict ((kvs.map fun p => kyD p.1).zip ds)) [a] ∧ (a == sysModules) = false := by
  obtain ⟨_, ns, vs, r, o, es, ep, eo, hd, ed, hk, hp, _⟩ := I.hok _ _ e
  obtain ⟨h1, h2⟩ := ents_read (h := s.heap) hp r hs
  have l1 : (kvs.map fun p => kyD p.1).length = ds.length := by
    have := congrArg List.length hs
    simpa using this
  refine ⟨Reads.dict (as := []) (bs := []) eo hd.1 ed ?_ ?_, ns⟩
  · rw [List.map_fst_zip (by omega)]
    exact h1
  · rw [List.map_snd_zip (by omega)]
    exact h2
end
end Mv
set_option Elab.async false
set_option maxRecDepth 100000
set_option maxHeartbeats 4000000
/-! repr of any value whose text is known. -/
namespace Mv
open PySem PySem.Spec PyProof.Rows L2
section
variable {X : Cx} {as : List Addr} {k : Nat} {H0 : Hp}
theorem Rt.dat {v : V} {d : PyData} (hd : Dp X.K H0 v d) (hs : Shw d) : Rt X k H0 v d.shown := fun A pins σ H s u E Q _ hg hr I sm r q => by
  obtain ⟨s1, s2, s3, s4⟩ := hs
  have fin : ∀ tk tk', Q (.str d.shown tk) { s with toks := tk' } := fun tk tk' => q H _ tk (I.tok tk') fun _ _ e => e
  cases hd.up sm with
  | non =>
    cases r
    exact PySem.P.repr_of_none (fin _ _)
  | bl b =>
    cases r
    exact PySem.P.repr_of_bool (by have := fin s.toks (s.toks + 1); simpa [PyData.shown] using this)
  | int i =>
    obtain ⟨t, rfl⟩ := r
    exact PySem.P.repr_of_int (by simpa [PyData.showable] using s1) (by have := fin s.toks (s.toks + 1); simpa [PyData.shown] using this)
  | str x =>
    obtain ⟨t, rfl⟩ := r
    exact PySem.P.repr_of_str (by have := fin s.toks (s.toks + 1); simpa [PyData.shown] using this) (by simpa [PyData.shown] using s4)
  | lst e h =>
    obtain rfl := r
    obtain ⟨as, rd⟩ := (Dp.lst e h).reads I _ _ _ rfl
    exact repr_of_reads' rd s1 (fun y => absurd y (by rw [s2]; simp)) hg (by have := hr.un; omega) (fun _ _ e => e) (fun h' tk tk' kp => q H _ tk (I.kept kp) fun _ _ e => e) s4
  | tup e h =>
    obtain rfl := r
    obtain ⟨as, rd⟩ := (Dp.tup e h).reads I _ _ _ rfl
    exact repr_of_reads' rd s1 (fun y => absurd y (by rw [s2]; simp)) hg (by have := hr.un; omega) (fun _ _ e => e) (fun h' tk tk' kp => q H _ tk (I.kept kp) fun _ _ e => e) s4
/-- a dict of texts and whole numbers -/
structure DcR (H : Hp) (a : Addr) (d : PyData) : Prop where
  ex : ∃ kvs ds, H a = some (.dK kvs) ∧ kvs.map (fun p => scD p.2) = ds.map some ∧ d = .dict ((kvs.map fun p => kyD p.1).zip ds)
  ok : d.showable = true ∧ d.depth ≤ 60 ∧ d.shown.length ≤ sizeLine
theorem Rt.dct {a : Addr} {d : PyData} (h : DcR H0 a d) : Rt X k H0 (.ref a) d.shown := fun A pins σ H s u E Q _ hg hr I sm r q => by
  obtain rfl := r
  obtain ⟨kvs, ds, e, hs, ed⟩ := h.ex
  obtain ⟨s1, s3, s4⟩ := h.ok
  obtain ⟨rd, ns⟩ := dict_read I (sm _ _ e) hs
  rw [← ed] at rd
  exact repr_of_reads' rd s1 (fun _ m => by rw [List.mem_singleton.mp m] at ns; simp at ns) hg (by have := hr.un; omega) (fun _ _ e => e) (fun h' tk tk' kp => q H _ tk (I.kept kp) fun _ _ e => e) s4
theorem Rp.dct {a : Addr} {d : PyData} (h : DcR H0 a d) : Rp X [] k H0 (.ref a) d.shown := fun z hz A g pins σ H s u E Q _ hg go _ hr I sm r q => by
  obtain rfl := r
  obtain ⟨kvs, ds, e, hs, ed⟩ := h.ex
  obtain ⟨s1, s3, s4⟩ := h.ok
  obtain ⟨rd, ns⟩ := dict_read I (sm _ _ e) hs
  rw [← ed] at rd
  obtain ⟨bs, hb, hk⟩ := ReprK.of_reads (prog := X.prog) (w := X.w) rd s1 (fun _ m => by rw [List.mem_singleton.mp m] at ns; simp at ns) s4
  refine hk z hz A g E s Q hg (fun b mb id w rest kw m e => ?_) (by have := hr.un; omega) (fun _ _ e => e) fun h' tk kp => q H _ (I.kept kp) (fun _ _ e => e)
  obtain ⟨c, e2, mx⟩ := go id w rest kw m
  rw [e2] at e
  cases e
  obtain ⟨d', as', r', _⟩ := hb _ mb
  exact mx.no I rfl r'
theorem Rt.own {a dx C : Addr} {fs : List (Str × V)} {sp : Sp} {t : Str} (c : Op2 X.prog X.w X.K X.mg X.base k C "__repr__" sp) (ea : H0 a = some (.ins C dx fs)) (hsp : ∀ (H : Hp) (Q : VK), Same H0 H → (∀ H', Same H H' → Q (.str t) H') → sp [.ref a] H Q E0) : Rt X k H0 (.ref a) t := fun A pins σ H s u E Q hf _ hr I sm r q => by
  obtain ⟨gd, fd, ps, F, hb, hs, hfn⟩ := c.ex
  obtain rfl : u = Value.ref a := r
  obtain ⟨mA, O, _⟩ := ins_get I.hok (sm _ _ ea)
  obtain ⟨od, J, _⟩ := O.look
  obtain ⟨m, hF⟩ := I.fr
  refine PySem.W.repr_K (by have := hr.units; show A.units + 1 < cLine; omega) hF I.ok.mod.kin J hs hfn ?_
  refine wpAny_mono (run_at (Q := fun v H' => v = .str t ∧ Same H H') (vs := [.ref a]) F hr.in1 hf hb I (.cons rfl .nil) (hsp H _ sm fun H' s' => ⟨rfl, s'⟩)) (fun w s' z => ?_) fun _ _ x => x
  obtain ⟨z', H', I', rz, rfl, s2⟩ := z
  obtain ⟨tk, rfl⟩ := rz
  exact q H' s' tk I' s2
end
theorem RpL.up {X : Cx} {as : List Addr} {k : Nat} {H0 H1 : Hp} (s : Same H0 H1) : ∀ {xs : List V} {ts : List Str}, RpL X as k H0 xs ts → RpL X as k H1 xs ts
  | _, _, .nil => .nil
  | _, _, .cons a h => .cons (a.up s) (h.up s)
theorem Rt.ownG {X : Cx} {k : Nat} {H0 : Hp} {a dx C : Addr} {fs : List (Str × V)} {sp : Sp} {t : Str} {ps : List Str} (c : Op2G X.prog X.w X.K X.mg X.base k C "__repr__" ps sp) (ea : H0 a = some (.ins C dx fs)) (hsp : ∀ (H : Hp) (Q : VK), Same H0 H → (∀ H', Same H H' → Q (.str t) H') → sp [.ref a] H Q E0) : Rt X k H0 (.ref a) t := fun A pins σ H s u E Q hf ga hr I sm r q => by
  obtain ⟨gd, fd, F, hb, hs, hfn⟩ := c.ex
  obtain rfl : u = Value.ref a := r
  obtain ⟨mA, O, _⟩ := ins_get I.hok (sm _ _ ea)
  obtain ⟨od, J, _⟩ := O.look
  obtain ⟨m, hF⟩ := I.fr
  refine PySem.W.repr_K (by have := hr.units; show A.units + 1 < cLine; omega) hF I.ok.mod.kin J hs hfn ?_
  refine wpAny_mono (run_atg (Q := fun v H' => v = .str t ∧ Same H H') (vs := [.ref a]) F hr.in1 (ga_in1 ga) hf hb I (.cons rfl .nil) (hsp H _ sm fun H' s' => ⟨rfl, s'⟩)) (fun w s' z => ?_) fun _ _ x => x
  obtain ⟨z', H', I', rz, rfl, s2⟩ := z
  obtain ⟨tk, rfl⟩ := rz
  exact q H' s' tk I' s2
/-- what repr tells of a value, asked at the top -/
structure Tps (P : Program) (w : World) (K : PySem.W.Frag) (mg : Str → Option Value) (base : Heap) (k : Nat) (H : Hp) (v : V) (t : Str) : Prop where
  top : ∀ X : Cx, Over X P w K mg base → Rt X k H v t
theorem Tps.same {P : Program} {w : World} {K : PySem.W.Frag} {mg : Str → Option Value} {base : Heap} {k : Nat} {H H' : Hp} {v : V} {t : Str} (h : Tps P w K mg base k H v t) (s : Same H H') : Tps P w K mg base k H' v t := ⟨fun X o A pins σ H2 s2 u E Q h1 h2 h3 h4 h5 => h.top X o A pins σ H2 s2 u E Q h1 h2 h3 h4 (s.trans h5)⟩
theorem Tps.up {P : Program} {w : World} {K : PySem.W.Frag} {mg : Str → Option Value} {base : Heap} {j k : Nat} {H : Hp} {v : V} {t : Str} (h : Tps P w K mg base k H v t) (l : k ≤ j) : Tps P w K mg base j H v t := ⟨fun X o A pins σ H2 s2 u E Q h1 h2 h3 => h.top X o A pins σ H2 s2 u E Q h1 h2 (h3.mono (by omega))⟩
theorem Tps.ownG {P : Program} {w : World} {K : PySem.W.Frag} {mg : Str → Option Value} {base : Heap} {k : Nat} {H : Hp} {a dx C : Addr} {fs : List (Str × V)} {sp : Sp} {t : Str} {ps : List Str} (c : Op2G P w K mg base k C "__repr__" ps sp) (ea : H a = some (.ins C dx fs)) (hsp : ∀ (H' : Hp) (Q : VK), Same H H' → (∀ H2, Same H' H2 → Q (.str t) H2) → sp [.ref a] H' Q E0) : Tps P w K mg base k H (.ref a) t := ⟨fun X o => Rt.ownG (by obtain ⟨rfl, rfl, rfl, rfl, rfl⟩ := o; exact c) ea hsp⟩
/-- a value and the text that repr tells of it -/
structure Shs (P : Program) (w : World) (K : PySem.W.Frag) (mg : Str → Option Value) (base : Heap) (k : Nat) (H : Hp) (v : V) (t : Str) : Prop where
  nest : ∃ as : List Addr, (∀ b ∈ as, H b ≠ none) ∧ ∀ X : Cx, Over X P w K mg base → Rp X as k H v t
  top : ∀ X : Cx, Over X P w K mg base → Rt X k H v t
section
variable {P : Program} {w : World} {K : PySem.W.Frag} {mg : Str → Option Value} {base : Heap} {k : Nat} {H : Hp}
theorem Shs.same {H' : Hp} {v : V} {t : Str} (h : Shs P w K mg base k H v t) (s : Same H H') : Shs P w K mg base k H' v t := by
  obtain ⟨as, n, h1⟩ := h.nest
  exact ⟨⟨as, fun b m => by
    cases e : H b with
    | none => exact absurd e (n b m)
    | some o => rw [s _ _ e]; simp, fun X o => (h1 X o).up s⟩, fun X o A pins σ H2 s2 u E Q h1 h2 h3 h4 h5 => h.top X o A pins σ H2 s2 u E Q h1 h2 h3 h4 (s.trans h5)⟩
theorem Shs.up {j : Nat} {v : V} {t : Str} (h : Shs P w K mg base k H v t) (l : k ≤ j) : Shs P w K mg base j H v t := by
  obtain ⟨as, n, h1⟩ := h.nest
  exact ⟨⟨as, n, fun X o => (h1 X o).more (fun _ m => m) l⟩, fun X o A pins σ H2 s2 u E Q h1 h2 h3 h4 h5 => h.top X o A pins σ H2 s2 u E Q h1 h2 (h3.mono (by omega)) h4 h5⟩
theorem Shs.dat {v : V} {d : PyData} (hd : Dp K H v d) (hs : Shw d) : Shs P w K mg base k H v d.shown := ⟨⟨[], fun _ m => by simp at m, fun X o => Rp.dat (by obtain ⟨_, _, rfl, _, _⟩ := o; exact hd) hs⟩, fun X o => Rt.dat (by obtain ⟨_, _, rfl, _, _⟩ := o; exact hd) hs⟩
theorem Shs.dct {a : Addr} {d : PyData} (h : DcR H a d) : Shs P w K mg base k H (.ref a) d.shown := ⟨⟨[], fun _ m => by simp at m, fun X o => Rp.dct h⟩, fun X o => Rt.dct h⟩
theorem Shs.own {a dx C : Addr} {fs : List (Str × V)} {sp : Sp} {t : Str} (c : Op2 P w K mg base k C "__repr__" sp) (ea : H a = some (.ins C dx fs)) (hsp : ∀ (H' : Hp) (Q : VK), Same H H' → (∀ H2, Same H' H2 → Q (.str t) H2) → sp [.ref a] H' Q E0) : Shs P w K mg base k H (.ref a) t := ⟨⟨[], fun _ m => by simp at m, fun X o => Rp.own (by obtain ⟨rfl, rfl, rfl, rfl, rfl⟩ := o; exact c) ea hsp⟩, fun X o => Rt.own (by obtain ⟨rfl, rfl, rfl, rfl, rfl⟩ := o; exact c) ea hsp⟩
/-- values with their texts -/
inductive ShL (P : Program) (w : World) (K : PySem.W.Frag) (mg : Str → Option Value) (base : Heap) (k : Nat) (H : Hp) : List V → List Str → Prop
  | nil : ShL P w K mg base k H [] []
  | cons {x : V} {t : Str} {xs : List V} {ts : List Str} : Shs P w K mg base k H x t → ShL P w K mg base k H xs ts → ShL P w K mg base k H (x :: xs) (t :: ts)
theorem ShL.same {H' : Hp} (s : Same H H') : ∀ {xs : List V} {ts : List Str}, ShL P w K mg base k H xs ts → ShL P w K mg base k H' xs ts
  | _, _, .nil => .nil
  | _, _, .cons h hs => .cons (h.same s) (hs.same s)
theorem ShL.app : ∀ {xs : List V} {ts : List Str} {ys : List V} {us : List Str}, ShL P w K mg base k H xs ts → ShL P w K mg base k H ys us → ShL P w K mg base k H (xs ++ ys) (ts ++ us)
  | _, _, _, _, .nil, h => h
  | _, _, _, _, .cons a h, g => .cons a (h.app g)
theorem ShL.nest : ∀ {xs : List V} {ts : List Str}, ShL P w K mg base k H xs ts → ∃ as : List Addr, (∀ b ∈ as, H b ≠ none) ∧ ∀ X : Cx, Over X P w K mg base → RpL X as k H xs ts
  | _, _, .nil => ⟨[], fun _ m => by simp at m, fun _ _ => .nil⟩
  | _, _, .cons h hs => by
    obtain ⟨as, n1, h1⟩ := h.nest
    obtain ⟨bs, n2, h2⟩ := hs.nest
    have grow : ∀ {X : Cx} {cs : List Addr} {xs : List V} {ts : List Str}, RpL X bs k H xs ts → (∀ b ∈ bs, b ∈ cs) → RpL X cs k H xs ts := fun {X cs xs ts} r sub => by
      induction r with
      | nil => exact .nil
      | cons a _ ih => exact .cons (a.more sub (Nat.le_refl _)) ih
    refine ⟨as ++ bs, fun b m => (List.mem_append.mp m).elim (n1 b) (n2 b), fun X o => .cons ((h1 X o).more (fun b m => List.mem_append_left _ m) (Nat.le_refl _)) (grow (h2 X o) fun b m => List.mem_append_right _ m)⟩
theorem ovK {X : Cx} (o : Over X P w K mg base) : X.K = K := by
  obtain ⟨_, _, h, _, _⟩ := o
  exact h
/-- a new tuple with an own instance somewhere in it -/
theorem Shs.tup {H0 : Hp} {a : Addr} {xs : List V} {ts : List Str} (s : Same H0 H) (n : H0 a = none) (e : H a = some (.tup xs)) (hx : ∃ x ∈ xs, Mx K H0 x) (h : ShL P w K mg base k H0 xs ts) (hz : (tupleText ts).length ≤ sizeLine) : Shs P w K mg base (k + 1) H (.ref a) (tupleText ts) := by
  obtain ⟨as, n1, h1⟩ := h.nest
  have rr : ∀ X : Cx, Over X P w K mg base → TpRp X as k H a ts := fun X o => by
    obtain ⟨x, mx, hm⟩ := hx
    have ek := ovK o
    refine ⟨⟨xs, SqT.of e, ⟨x, mx, by rw [ek]; exact hm.same s⟩, (h1 X o).up s⟩, fun m => n1 a m n⟩
  refine ⟨⟨a :: as, fun b m => ?_, fun X o => Rp.tup (rr X o)⟩, fun X o => Rt.tup (rr X o) hz⟩
  rcases List.mem_cons.mp m with rfl | m
  · rw [e]; simp
  · cases e0 : H0 b with
    | none => exact absurd e0 (n1 b m)
    | some o => rw [s _ _ e0]; simp
/-- a new list with an own instance somewhere in it -/
theorem Shs.lst {H0 : Hp} {a : Addr} {xs : List V} {ts : List Str} (s : Same H0 H) (n : H0 a = none) (e : H a = some (.lst xs)) (hx : ∃ x ∈ xs, Mx K H0 x) (h : ShL P w K mg base k H0 xs ts) (hz : (listText ts).length ≤ sizeLine) : Shs P w K mg base (k + 1) H (.ref a) (listText ts) := by
  obtain ⟨as, n1, h1⟩ := h.nest
  have rr : ∀ X : Cx, Over X P w K mg base → LsRp X as k H a ts := fun X o => by
    obtain ⟨x, mx, hm⟩ := hx
    have ek := ovK o
    refine ⟨⟨xs, List.ne_nil_of_mem mx, SqL.of e, ⟨x, mx, by rw [ek]; exact hm.same s⟩, ((h1 X o).up s).len, fun i x h => ((h1 X o).up s).get h⟩, fun m => n1 a m n⟩
  refine ⟨⟨a :: as, fun b m => ?_, fun X o => Rp.lst (rr X o)⟩, fun X o => Rt.lst (rr X o) hz⟩
  rcases List.mem_cons.mp m with rfl | m
  · rw [e]; simp
  · cases e0 : H0 b with
    | none => exact absurd e0 (n1 b m)
    | some o => rw [s _ _ e0]; simp
/-- repr(v) -/
def rReprV (P : Program) (w : World) (K : PySem.W.Frag) (mg : Str → Option Value) (base : Heap) (k : Nat) : List V → Hp → VK → Prop := fun xs H Q => ∃ v t, xs = [v] ∧ Tps P w K mg base k H v t ∧ ∀ H', Same H H' → Q (.str t) H'
theorem call_reprV {X : Cx} {j : Nat} (ga : GA X.A) (hr : Room j X.A) (hk : k + 1 ≤ j) (o : Over X P w K mg base := by exact ⟨rfl, rfl, rfl, rfl, rfl⟩) : CallR X (.builtin "repr") (rReprV P w K mg base k) := by
  intro pins s σ H xs us Q I r h
  obtain ⟨v, t, rfl, hs, q⟩ := h
  obtain ⟨u, rfl, ru⟩ := vals1 r
  exact hs.top X o X.A pins σ H s u _ _ I.ok.frames ga (hr.mono hk) I (Same.refl _) ru fun H' s' tk I' s2 => ⟨.str t, H', I', ⟨_, rfl⟩, q H' s2⟩
theorem Shs.tps {v : V} {t : Str} (h : Shs P w K mg base k H v t) : Tps P w K mg base k H v t := ⟨h.top⟩
theorem go_reprV {v : V} {t : Str} {Q : VK} (h : Tps P w K mg base k H v t) (q : ∀ H', Same H H' → Q (.str t) H') : rReprV P w K mg base k [v] H Q := ⟨v, t, rfl, h, q⟩
end
end Mv
set_option Elab.async false
set_option maxRecDepth 100000
set_option maxHeartbeats 4000000
/-! values that can be shown: plain data, or with own instances in them. -/
namespace Mv
open PySem PySem.Spec PyProof.Rows L2
theorem tupTxt_len (ts : List Str) : (tupleText ts).length ≤ piled ts + 3 := by
  unfold tupleText
  rw [strLen_append, strLen_append]
  have e1 : ((("(" : String) : Str)).length = 1 := rfl
  have e2 : ((if (ts.length == 1) = true then ",)" else ")" : String) : Str).length ≤ 2 := by split <;> decide
  rw [e1]
  by_cases h : ts = []
  · subst h
    have : (Str.join ", " []).length = 0 := rfl
    omega
  · have := join_length_add ts h
    omega
theorem lstTxt_len : ∀ ts : List Str, (listText ts).length ≤ piled ts + 2
  | [] => by decide +kernel
  | t :: r => by
    have h := textFrom_length_pos r 1 (("[" : Str) ++ (if (0 : Nat) > 0 then ", " else "" : String) ++ t) (Nat.succ_pos 0)
    have e : ((("[" : Str) ++ (if (0 : Nat) > 0 then ", " else "" : String) ++ t)).length = 1 + t.length := by
      rw [strLen_append, strLen_append]
      rfl
    have e1 : (listText (t :: r)).length = (textFrom 1 (("[" : Str) ++ (if (0 : Nat) > 0 then ", " else "" : String) ++ t) r).length + 1 := by
      show (textFrom 0 "[" (t :: r) ++ "]").length = _
      rw [strLen_append]
      rfl
    rw [e1, h, e, piled_cons]
    omega
theorem piled_le {n : Nat} : ∀ {ts : List Str}, (∀ t ∈ ts, t.length ≤ n) → piled ts ≤ ts.length * (n + 2)
  | [], _ => by simp [piled]
  | t :: ts, h => by
    have h1 := h t (List.mem_cons_self ..)
    have h2 := piled_le (ts := ts) fun x m => h x (List.mem_cons_of_mem _ m)
    rw [piled_cons, List.length_cons, Nat.add_mul]
    omega
/-- at most k deep, of weight at most W -/
def Itv (P : Program) (w : World) (K : PySem.W.Frag) (mg : Str → Option Value) (base : Heap) (k W : Nat) (H : Hp) (v : V) : Prop :=
  (∃ d, Dp K H v d ∧ Sma k W d) ∨ (Mx K H v ∧ ∃ t : Str, t.length ≤ 403 * W + 403 ∧ Shs P w K mg base k H v t)
section
variable {P : Program} {w : World} {K : PySem.W.Frag} {mg : Str → Option Value} {base : Heap} {k W : Nat} {H : Hp}
theorem Itv.same {H' : Hp} {v : V} (s : Same H H') (h : Itv P w K mg base k W H v) : Itv P w K mg base k W H' v := by
  rcases h with ⟨d, hd, hs⟩ | ⟨m, t, l, hs⟩
  · exact .inl ⟨d, hd.up s, hs⟩
  · exact .inr ⟨m.same s, t, l, hs.same s⟩
theorem Itv.mono {k' W' : Nat} {v : V} (h : Itv P w K mg base k W H v) (h1 : k ≤ k') (h2 : W ≤ W') : Itv P w K mg base k' W' H v := by
  rcases h with ⟨d, hd, hs⟩ | ⟨m, t, l, hs⟩
  · exact .inl ⟨d, hd, hs.mono h1 h2⟩
  · exact .inr ⟨m, t, by omega, hs.up h1⟩
theorem Itv.shs {v : V} (h : Itv P w K mg base k W H v) (h1 : k ≤ 60) (h2 : W ≤ 40000) : ∃ t : Str, t.length ≤ 403 * W + 403 ∧ Shs P w K mg base k H v t := by
  rcases h with ⟨d, hd, hs⟩ | ⟨m, t, l, hs⟩
  · exact ⟨_, hs.len, .dat hd (hs.shw h1 h2)⟩
  · exact ⟨t, l, hs⟩
theorem its_shl (h1 : k ≤ 60) (h2 : W ≤ 40000) : ∀ {xs : List V}, (∀ x ∈ xs, Itv P w K mg base k W H x) → ∃ ts, ShL P w K mg base k H xs ts ∧ (∀ t ∈ ts, t.length ≤ 403 * W + 403) ∧ ts.length = xs.length
  | [], _ => ⟨[], .nil, fun _ m => by simp at m, rfl⟩
  | x :: xs, h => by
    obtain ⟨t, l, hs⟩ := (h x (List.mem_cons_self ..)).shs h1 h2
    obtain ⟨ts, h3, h4, h5⟩ := its_shl h1 h2 (xs := xs) fun y m => h y (List.mem_cons_of_mem _ m)
    exact ⟨t :: ts, .cons hs h3, fun u m => (List.mem_cons.mp m).elim (fun e => e ▸ l) (h4 u), by simp [h5]⟩
theorem its_dat : ∀ {xs : List V}, (∀ x ∈ xs, Itv P w K mg base k W H x) → (¬ ∃ x ∈ xs, Mx K H x) → ∃ ds, DpAll K H xs ds ∧ (∀ d ∈ ds, Sma k W d) ∧ ds.length = xs.length
  | [], _, _ => ⟨[], .nil, fun _ m => by simp at m, rfl⟩
  | x :: xs, h, n => by
    rcases h x (List.mem_cons_self ..) with ⟨d, hd, hs⟩ | ⟨m, _⟩
    · obtain ⟨ds, h3, h4, h5⟩ := its_dat (xs := xs) (fun y m => h y (List.mem_cons_of_mem _ m)) fun ⟨y, m, z⟩ => n ⟨y, List.mem_cons_of_mem _ m, z⟩
      exact ⟨d :: ds, .cons hd h3, fun e m => (List.mem_cons.mp m).elim (fun z => z ▸ hs) (h4 e), by simp [h5]⟩
    · exact absurd ⟨x, List.mem_cons_self .., m⟩ n
/-- a new tuple, a new list -/
theorem Itv.tup {H0 : Hp} {a : Addr} {xs : List V} {n : Nat} (s : Same H0 H) (f : H0 a = none) (e : H a = some (.tup xs)) (h : ∀ x ∈ xs, Itv P w K mg base k W H0 x) (hn : xs.length ≤ n) (h1 : k ≤ 60) (h2 : n * (403 * W + 405) ≤ 10000000) (h3 : W ≤ 40000) : Itv P w K mg base (k + 1) (n * (W + 2) + 1) H (.ref a) := by
  by_cases c : ∃ x ∈ xs, Mx K H0 x
  · obtain ⟨ts, g1, g2, g3⟩ := its_shl h1 h3 h
    have l1 := tupTxt_len ts
    have l2 := piled_le g2
    have l3 : ts.length * (403 * W + 403 + 2) ≤ n * (403 * W + 405) := Nat.mul_le_mul (by omega) (Nat.le_refl _)
    refine .inr ⟨?_, tupleText ts, ?_, .tup s f e c g1 (by unfold sizeLine; omega)⟩
    · obtain ⟨x, mx, hx⟩ := c
      exact .tup (SqT.of e) mx (hx.same s)
    · have : 403 * (n * (W + 2) + 1) = n * (403 * W + 806) + 403 := by
        rw [Nat.mul_add, ← Nat.mul_assoc, Nat.mul_comm 403 n, Nat.mul_assoc, Nat.mul_add]
      have : n * (403 * W + 405) ≤ n * (403 * W + 806) := Nat.mul_le_mul (Nat.le_refl _) (by omega)
      omega
  · obtain ⟨ds, g1, g2, g3⟩ := its_dat h c
    refine .inl ⟨_, .tup (SqT.of e) (g1.up s), (Sma.tuple g2).mono (Nat.le_refl _) ?_⟩
    have : ds.length * (W + 1) ≤ n * (W + 2) := Nat.mul_le_mul (by omega) (by omega)
    omega
theorem Itv.lst {H0 : Hp} {a : Addr} {xs : List V} {n : Nat} (s : Same H0 H) (f : H0 a = none) (e : H a = some (.lst xs)) (h : ∀ x ∈ xs, Itv P w K mg base k W H0 x) (hn : xs.length ≤ n) (h1 : k ≤ 60) (h2 : n * (403 * W + 405) ≤ 10000000) (h3 : W ≤ 40000) : Itv P w K mg base (k + 1) (n * (W + 2) + 1) H (.ref a) := by
  by_cases c : ∃ x ∈ xs, Mx K H0 x
  · obtain ⟨ts, g1, g2, g3⟩ := its_shl h1 h3 h
    have l1 := lstTxt_len ts
    have l2 := piled_le g2
    have l3 : ts.length * (403 * W + 403 + 2) ≤ n * (403 * W + 405) := Nat.mul_le_mul (by omega) (Nat.le_refl _)
    refine .inr ⟨?_, listText ts, ?_, .lst s f e c g1 (by unfold sizeLine; omega)⟩
    · obtain ⟨x, mx, hx⟩ := c
      exact .lst (SqL.of e) mx (hx.same s)
    · have : 403 * (n * (W + 2) + 1) = n * (403 * W + 806) + 403 := by
        rw [Nat.mul_add, ← Nat.mul_assoc, Nat.mul_comm 403 n, Nat.mul_assoc, Nat.mul_add]
      have : n * (403 * W + 405) ≤ n * (403 * W + 806) := Nat.mul_le_mul (Nat.le_refl _) (by omega)
      omega
  · obtain ⟨ds, g1, g2, g3⟩ := its_dat h c
    refine .inl ⟨_, .lst (SqL.of e) (g1.up s), (Sma.list g2).mono (Nat.le_refl _) ?_⟩
    have : ds.length * (W + 1) ≤ n * (W + 2) := Nat.mul_le_mul (by omega) (by omega)
    omega
/-- the heap without one address -/
def dl (p : Addr) (H : Hp) : Hp := fun c => if c = p then none else H c
theorem dl_same (p : Addr) (H : Hp) : Same (dl p H) H := fun c o e => by
  unfold dl at e
  split at e
  · cases e
  · exact e
theorem dl_bu {p : Addr} {H H' : Hp} (b : Bu p H H') : Same (dl p H) (dl p H') := fun c o e => by
  unfold dl at e ⊢
  split at e
  · cases e
  · rename_i n
    rw [if_neg n]
    exact b c o n e
theorem dl_at {p c : Addr} {H : Hp} {o : HO} (e : H c = some o) (n : c ≠ p) : dl p H c = some o := by
  unfold dl
  rw [if_neg n]
  exact e
theorem dl_none {p c : Addr} {H : Hp} (e : H c = none) : dl p H c = none := by
  unfold dl
  split
  · rfl
  · exact e
theorem dl_up {p : Addr} {H H' : Hp} (s : Same H H') : Same (dl p H) (dl p H') := dl_bu (Bu.of s p)
end
end Mv
namespace Mv
open PySem PySem.Spec PyProof.Rows L2
/-- t == (), t any tuple -/
def rEqE (K : PySem.W.Frag) : R2 := fun x y H Q => ∃ a b xs, x = .ref a ∧ y = .ref b ∧ SqT K H a xs ∧ SqT K H b [] ∧ Q (.bl (decide (xs.length = 0))) H
theorem op_eqE {X : Cx} (hu : X.A.units < cLine) : OpR X (compareOp .Eq) (rEqE X.K) := by
  intro pins s σ H x y v u Q I rx ry h
  obtain ⟨a, b, xs, rfl, rfl, ha, hb, q⟩ := h
  obtain rfl := rx
  obtain rfl := ry
  obtain ⟨its, rv, ta, _⟩ := I.tuple ha
  obtain ⟨jts, rw', tb, _⟩ := I.tuple hb
  cases rw'
  refine SeqAt.eq_tupleAt (e := fun _ => true) ta tb hu (fun j h1 h2 => by simp at h2) ⟨.bl _, H, I, ?_, q⟩
  have l := rv.length
  show Value.bool _ = Value.bool _
  congr 1
  rw [show its.toArray.size = xs.length by rw [List.size_toArray, l]]
  by_cases c : xs.length = 0
  · rw [c]
    rfl
  · rw [decide_eq_false c]
    simp [c]
theorem op_eqE' {X : Cx} {K : PySem.W.Frag} {j : Nat} (hr : Room j X.A) (e : X.K = K := by (conv => lhs; whnf)) : OpR X (compareOp .Eq) (rEqE K) := by
  subst e
  exact op_eqE hr.units0
/-- a tuple that was not there -/
structure NwTp (G H : Hp) (t : Addr) (xs : List V) : Prop where
  e : H t = some (.tup xs)
  n : G t = none
theorem NwTp.up {G H H' : Hp} {t : Addr} {xs : List V} (h : NwTp G H t xs) (s : Same H H') : NwTp G H' t xs := ⟨s _ _ h.e, h.n⟩
theorem cat_new {K : PySem.W.Frag} {G H : Hp} {a b : Addr} {xs ys : List V} {Q : VK} (g : Same G H) (h1 : NwTp G H a xs) (h2 : NwTp G H b ys) (hz : xs.length + ys.length ≤ 1000) (q : ∀ t H', Same H H' → NwTp G H' t (xs ++ ys) → Q (.ref t) H') : rCatA K (.ref a) (.ref b) H Q := by
  refine ⟨a, b, _, _, rfl, rfl, SqT.of h1.e, SqT.of h2.e, by unfold sizeLine; omega, fun e => ?_, fun _ e => ?_, fun _ _ p hp => ?_⟩
  · subst e
    exact q b H (Same.refl _) h2
  · subst e
    rw [List.append_nil] at q
    exact q a H (Same.refl _) h1
  · exact q p _ (same_new hp) ⟨upd_same, g.free hp⟩
theorem cat_newL {K : PySem.W.Frag} {G H : Hp} {a b : Addr} {xs ys : List V} {Q : VK} (g : Same G H) (h1 : NwTp G H a xs) (ne : xs ≠ []) (h2 : SqT K H b ys) (hz : xs.length + ys.length ≤ 1000) (q : ∀ t H', Same H H' → NwTp G H' t (xs ++ ys) → Q (.ref t) H') : rCatA K (.ref a) (.ref b) H Q := by
  refine ⟨a, b, _, _, rfl, rfl, SqT.of h1.e, h2, by unfold sizeLine; omega, fun e => absurd e ne, fun _ e => ?_, fun _ _ p hp => ?_⟩
  · subst e
    rw [List.append_nil] at q
    exact q a H (Same.refl _) h1
  · exact q p _ (same_new hp) ⟨upd_same, g.free hp⟩
theorem cut_to {K : PySem.W.Frag} {H : Hp} {a : Addr} {xs : List V} {k : Nat} {Q : VK} (h : SqT K H a xs) (hk : k < xs.length) (q : ∀ t H', Same H H' → NwTp H H' t (xs.take k) → Q (.ref t) H') : rSlA K (.ref a) none (some (k : Int)) H Q := by
  refine ⟨a, _, rfl, h, fun hw => ?_, fun _ p hp => ?_⟩
  · rw [HT.sIx_nat] at hw
    omega
  · refine q p _ (same_new hp) ⟨?_, hp⟩
    rw [upd_same]
    unfold cutV
    rw [HT.sIx_nat, HT.sIx_none, List.drop_zero, Nat.sub_zero, Nat.min_eq_left (by omega)]
theorem cut_from {K : PySem.W.Frag} {H : Hp} {a : Addr} {xs : List V} {k : Nat} {z : Int} {Q : VK} (ez : z = ((k + 1 : Nat) : Int)) (h : SqT K H a xs) (hk : k < xs.length) (q : ∀ t H', Same H H' → NwTp H H' t (xs.drop (k + 1)) → Q (.ref t) H') : rSlA K (.ref a) (some z) none H Q := by
  subst ez
  refine ⟨a, _, rfl, h, fun hw => ?_, fun _ p hp => ?_⟩
  · rw [HT.sIx_nat] at hw
    omega
  · refine q p _ (same_new hp) ⟨?_, hp⟩
    rw [upd_same]
    unfold cutV
    rw [HT.sIx_nat, HT.sIx_none, Nat.min_eq_left (by omega), List.take_of_length_le (by rw [List.length_drop]; omega)]
end Mv
set_option Elab.async false
set_option maxRecDepth 100000
set_option maxHeartbeats 4000000
/-! mvrd: what repr tells of data with dicts of texts and whole numbers in it. -/
namespace Mv
open PySem PySem.Spec PyProof.Rows L2
/-- what stands at sys.modules is a dict: no list stands there -/
structure SmG (K : PySem.W.Frag) : Prop where
  ok : ∃ o, K.lookup sysModules = some o ∧ o.cls = .type "dict"
theorem smB_ok {K : PySem.W.Frag} (h : smB K = true) : SmG K := by
  obtain ⟨o, e, z⟩ := PySem.W.any_some h
  exact ⟨o, e, of_decide_eq_true z⟩
mutual
inductive Dq (K : PySem.W.Frag) (H : Hp) : V → PyData → Prop
  | dp {v : V} {d : PyData} : Dp K H v d → Dq K H v d
  | dct {a : Addr} {kvs : List (Key × V)} {ds : List PyData} : H a = some (.dK kvs) → kvs.map (fun p => scD p.2) = ds.map some → Dq K H (.ref a) (.dict ((kvs.map fun p => kyD p.1).zip ds))
  | dc1 {a : Addr} {k : List Key} {v : V} {d : PyData} : H a = some (.dT [(k, v)]) → scD v = some d → Dq K H (.ref a) (.dict [(.tuple (k.map kyD), d)])
  | lst {a : Addr} {xs : List V} {ds : List PyData} : SqL K H a xs → DqAll K H xs ds → Dq K H (.ref a) (.list ds)
  | tup {a : Addr} {xs : List V} {ds : List PyData} : SqT K H a xs → DqAll K H xs ds → Dq K H (.ref a) (.tuple ds)
inductive DqAll (K : PySem.W.Frag) (H : Hp) : List V → List PyData → Prop
  | nil : DqAll K H [] []
  | cons {v : V} {vs : List V} {d : PyData} {ds : List PyData} : Dq K H v d → DqAll K H vs ds → DqAll K H (v :: vs) (d :: ds)
end
section
variable {K : PySem.W.Frag} {H H' : Hp}
mutual
theorem Dq.same (s : Same H H') : ∀ {v : V} {d : PyData}, Dq K H v d → Dq K H' v d
  | _, _, .dp h => .dp (h.up s)
  | _, _, .dct e h => .dct (s _ _ e) h
  | _, _, .dc1 e h => .dc1 (s _ _ e) h
  | _, _, .lst e h => .lst (s.seq e) (DqAll.same s h)
  | _, _, .tup e h => .tup (Same.tup s e) (DqAll.same s h)
theorem DqAll.same (s : Same H H') : ∀ {vs : List V} {ds : List PyData}, DqAll K H vs ds → DqAll K H' vs ds
  | _, _, .nil => .nil
  | _, _, .cons h hs => .cons (Dq.same s h) (DqAll.same s hs)
end
mutual
theorem dp_nd : ∀ (d : PyData) (v : V), Dp K H v d → d.hasDict = false
  | .none, _, _ => by simp only [PyData.hasDict]
  | .bool _, _, _ => by simp only [PyData.hasDict]
  | .int _, _, _ => by simp only [PyData.hasDict]
  | .str _, _, _ => by simp only [PyData.hasDict]
  | .list ds, _, h => by
    cases h with
    | lst e h =>
      simp only [PyData.hasDict]
      exact dpa_nd ds _ h
  | .tuple ds, _, h => by
    cases h with
    | tup e h =>
      simp only [PyData.hasDict]
      exact dpa_nd ds _ h
  | .dict _, _, h => by cases h
theorem dpa_nd : ∀ (ds : List PyData) (vs : List V), DpAll K H vs ds → PyData.hasDictAll ds = false
  | [], _, _ => by simp only [PyData.hasDictAll]
  | d :: ds, _, h => by
    cases h with
    | cons h hs =>
      simp only [PyData.hasDictAll]
      rw [dp_nd d _ h, dpa_nd ds _ hs]
      rfl
end
end
section
variable {h : Heap} {o : Obj}
mutual
theorem reads_no1 (ho : h.get? sysModules = some o) (hc : o.cls = .type "dict") : ∀ {v : Value} {d : PyData} {as : List Addr}, Reads h v d as → d.hasDict = false → sysModules ∉ as
  | _, _, _, .none, _ => fun m => by simp at m
  | _, _, _, .bool _, _ => fun m => by simp at m
  | _, _, _, .int _ _, _ => fun m => by simp at m
  | _, _, _, .str _ _, _ => fun m => by simp at m
  | _, _, _, .list h1 h2 h3 h4, hd => fun m => by
    rcases List.mem_cons.mp m with e | m
    · rw [← e, ho] at h1
      cases h1
      rw [hc] at h2
      exact absurd h2 (by decide)
    · exact readsA_no1 ho hc h4 (by simpa [PyData.hasDict] using hd) m
  | _, _, _, .tuple h1 h2 h3 h4, hd => readsA_no1 ho hc h4 (by simpa [PyData.hasDict] using hd)
  | _, _, _, .dict h1 h2 h3 h4 h5, hd => by simp [PyData.hasDict] at hd
theorem readsA_no1 (ho : h.get? sysModules = some o) (hc : o.cls = .type "dict") : ∀ {vs : List Value} {ds : List PyData} {as : List Addr}, ReadsAll h vs ds as → PyData.hasDictAll ds = false → sysModules ∉ as
  | _, _, _, .nil, _ => fun m => by simp at m
  | _, _, _, .cons h1 h2, hd => fun m => by
    rw [PyData.hasDictAll, Bool.or_eq_false_iff] at hd
    rcases List.mem_append.mp m with m | m
    · exact reads_no1 ho hc h1 hd.1 m
    · exact readsA_no1 ho hc h2 hd.2 m
end
end
section
variable {X : Cx} {pins : List (Addr × Obj)} {σ : L2.St} {H : Hp} {s : Shared}
theorem keys_read {h : Heap} : ∀ {k : List Key} {its : List Value}, Vals (k.map kV) its → ReadsAll h its (k.map kyD) []
  | [], its, r => by
    cases r
    exact .nil
  | .inl i :: k, its, r => by
    cases r with
    | cons r1 r2 =>
      obtain ⟨t, rfl⟩ := r1
      exact ReadsAll.cons (as := []) (bs := []) (Reads.int i t) (keys_read r2)
  | .inr x :: k, its, r => by
    cases r with
    | cons r1 r2 =>
      obtain ⟨t, rfl⟩ := r1
      exact ReadsAll.cons (as := []) (bs := []) (Reads.str x t) (keys_read r2)
theorem dict1_read {a : Addr} {k : List Key} {v : V} {d : PyData} (I : Inv X pins σ H s) (e : H a = some (.dT [(k, v)])) (hs : scD v = some d) : Reads s.heap (.ref a) (.dict [(.tuple (k.map kyD), d)]) [a] ∧ (a == sysModules) = false := by
  obtain ⟨_, ns, xs, r, o, es, ep, eo, hd, ed, hk, _⟩ := I.hok _ _ e
  cases r with
  | @cons p q ps qs hq t =>
    cases t
    obtain ⟨k', b, u⟩ := q
    obtain ⟨h1, h2, h3⟩ := hq
    cases h1
    obtain ⟨its, rv, ⟨ob, ho, hc, n, hdb⟩, _⟩ := I.tuple (SqT.of h2)
    refine ⟨Reads.dict (as := []) (bs := []) eo hd.1 ed ?_ ?_, ns⟩
    · rw [hk]
      exact ReadsAll.cons (as := []) (bs := []) (Reads.tuple ho hc hdb (keys_read rv)) .nil
    · rw [hk]
      exact ReadsAll.cons (as := []) (bs := []) (sc_reads hs h3) .nil
theorem no1_at (G : SmG X.K) (I : Inv X pins σ H s) : ∃ o, s.heap.get? sysModules = some o ∧ o.cls = .type "dict" := by
  obtain ⟨o, e, c⟩ := G.ok
  exact ⟨o, I.kIn _ _ e, c⟩
mutual
theorem Dq.reads (G : SmG X.K) (I : Inv X pins σ H s) : ∀ (d : PyData) (v : V) (u : Value), Dq X.K H v d → RelV v u → ∃ as, Reads s.heap u d as ∧ sysModules ∉ as
  | .list ds, _, _, h, r => by
    obtain ⟨o1, g1, c1⟩ := no1_at G I
    cases h with
    | dp h =>
      obtain ⟨as, rd⟩ := h.reads I _ _ _ r
      exact ⟨as, rd, reads_no1 g1 c1 rd (dp_nd _ _ h)⟩
    | lst hs ha =>
      cases r
      obtain ⟨its, rv, ⟨o, n, ho, hc, _, hd⟩, _⟩ := I.list hs
      obtain ⟨as, hr, hn⟩ := Dq.readsAll G I ds _ its ha rv
      refine ⟨_, Reads.list ho hc hd hr, fun m => ?_⟩
      rcases List.mem_cons.mp m with e | m
      · rw [← e, g1] at ho
        cases ho
        rw [c1] at hc
        exact absurd hc (by decide)
      · exact hn m
  | .tuple ds, _, _, h, r => by
    obtain ⟨o1, g1, c1⟩ := no1_at G I
    cases h with
    | dp h =>
      obtain ⟨as, rd⟩ := h.reads I _ _ _ r
      exact ⟨as, rd, reads_no1 g1 c1 rd (dp_nd _ _ h)⟩
    | tup hs ha =>
      cases r
      obtain ⟨its, rv, ⟨o, ho, hc, n, hd⟩, _⟩ := I.tuple hs
      obtain ⟨as, hr, hn⟩ := Dq.readsAll G I ds _ its ha rv
      exact ⟨_, Reads.tuple ho hc hd hr, hn⟩
  | .dict _, _, _, h, r => by
    cases h with
    | dp h => cases h
    | dct e hs =>
      cases r
      obtain ⟨rd, ns⟩ := dict_read I e hs
      exact ⟨_, rd, fun m => by rw [List.mem_singleton.mp m] at ns; simp at ns⟩
    | dc1 e hs =>
      cases r
      obtain ⟨rd, ns⟩ := dict1_read I e hs
      exact ⟨_, rd, fun m => by rw [List.mem_singleton.mp m] at ns; simp at ns⟩
  | .none, _, _, h, r => by
    cases h with
    | dp h =>
      cases h
      cases r
      exact ⟨_, Reads.none, fun m => by simp at m⟩
  | .bool b, _, _, h, r => by
    cases h with
    | dp h =>
      cases h
      cases r
      exact ⟨_, Reads.bool b, fun m => by simp at m⟩
  | .int i, _, _, h, r => by
    cases h with
    | dp h =>
      cases h
      obtain ⟨t, rfl⟩ := r
      exact ⟨_, Reads.int i t, fun m => by simp at m⟩
  | .str x, _, _, h, r => by
    cases h with
    | dp h =>
      cases h
      obtain ⟨t, rfl⟩ := r
      exact ⟨_, Reads.str x t, fun m => by simp at m⟩
theorem Dq.readsAll (G : SmG X.K) (I : Inv X pins σ H s) : ∀ (ds : List PyData) (vs : List V) (us : List Value), DqAll X.K H vs ds → Vals vs us → ∃ as, ReadsAll s.heap us ds as ∧ sysModules ∉ as
  | [], _, _, h, r => by
    cases h
    cases r
    exact ⟨_, ReadsAll.nil, fun m => by simp at m⟩
  | d :: ds, _, _, h, r => by
    cases h with
    | cons h1 h2 =>
      cases r with
      | cons r1 r2 =>
        obtain ⟨as, q1, n1⟩ := Dq.reads G I d _ _ h1 r1
        obtain ⟨bs, q2, n2⟩ := Dq.readsAll G I ds _ _ h2 r2
        exact ⟨_, ReadsAll.cons q1 q2, fun m => (List.mem_append.mp m).elim n1 n2⟩
end
end
/-- it can be shown -/
def Shq (d : PyData) : Prop := d.showable = true ∧ d.depth ≤ 60 ∧ d.shown.length ≤ sizeLine
section
variable {X : Cx} {k : Nat} {H0 : Hp}
theorem Rt.dq (G : SmG X.K) {v : V} {d : PyData} (hd : Dq X.K H0 v d) (hs : Shq d) : Rt X k H0 v d.shown := fun A pins σ H s u E Q hf hg hr I sm r q => by
  obtain ⟨s1, s3, s4⟩ := hs
  have ref : ∀ {a : Addr}, v = .ref a → wpAny (model X.prog X.w) A (call (.builtin "repr") [u]) Q E s := fun {a} e => by
    subst e
    obtain ⟨as, rd, n1⟩ := Dq.reads G I d _ u (Dq.same sm hd) r
    obtain rfl : u = Value.ref a := r
    exact repr_of_reads' rd s1 (fun _ => n1) hg (by have := hr.un; omega) (fun _ _ e => e) (fun h' tk tk' kp => q H _ tk (I.kept kp) fun _ _ e => e) s4
  cases hd with
  | dp h => exact Rt.dat h ⟨s1, dp_nd _ _ h, s3, s4⟩ A pins σ H s u E Q hf hg hr I sm r q
  | dct e h => exact ref rfl
  | dc1 e h => exact ref rfl
  | lst e h => exact ref rfl
  | tup e h => exact ref rfl
theorem Rp.dq (G : SmG X.K) {v : V} {d : PyData} (hd : Dq X.K H0 v d) (hs : Shq d) : Rp X [] k H0 v d.shown := fun z hz A g pins σ H s u E Q hf hg go _ hr I sm r q => by
  obtain ⟨s1, s3, s4⟩ := hs
  obtain ⟨as, rd, n1⟩ := Dq.reads G I d _ u (Dq.same sm hd) r
  obtain ⟨bs, hb, hk⟩ := ReprK.of_reads (prog := X.prog) (w := X.w) rd s1 (fun _ => n1) s4
  refine hk z hz A g E s Q hg (fun b mb id w rest kw m e => ?_) (by have := hr.un; omega) (fun _ _ e => e) fun h' tk kp => q H _ (I.kept kp) (fun _ _ e => e)
  obtain ⟨c, e2, mx⟩ := go id w rest kw m
  rw [e2] at e
  cases e
  obtain ⟨d', as', r', _⟩ := hb _ mb
  exact mx.no I rfl r'
end
section
variable {P : Program} {w : World} {K : PySem.W.Frag} {mg : Str → Option Value} {base : Heap} {k W : Nat} {H : Hp}
theorem Shs.dq (G : SmG K) {v : V} {d : PyData} (hd : Dq K H v d) (hs : Shq d) : Shs P w K mg base k H v d.shown :=
  ⟨⟨[], fun _ m => by simp at m, fun X o => Rp.dq (by rw [ovK o]; exact G) (by rw [ovK o]; exact hd) hs⟩, fun X o => Rt.dq (by rw [ovK o]; exact G) (by rw [ovK o]; exact hd) hs⟩
/-- at most k deep, of weight at most W -/
structure Smq (k W : Nat) (d : PyData) : Prop where
  sh : d.showable = true
  dp : d.depth ≤ k
  lf : d.leavesShort 401 = true
  wt : d.weight ≤ W
theorem Smq.of {d : PyData} (h : Sma k W d) : Smq k W d := ⟨h.sh, h.dp, h.lf, h.wt⟩
theorem Smq.mono {k' W' : Nat} {d : PyData} (h : Smq k W d) (h1 : k ≤ k') (h2 : W ≤ W') : Smq k' W' d := ⟨h.sh, Nat.le_trans h.dp h1, h.lf, Nat.le_trans h.wt h2⟩
theorem Smq.len {d : PyData} (h : Smq k W d) : d.shown.length ≤ 403 * W + 403 := by
  have := PyData.shown_le 401 (by decide) d h.lf
  have := h.wt
  omega
theorem Smq.shq {d : PyData} (h : Smq k W d) (h1 : k ≤ 60) (h2 : W ≤ 40000) : Shq d := by
  refine ⟨h.sh, Nat.le_trans h.dp h1, ?_⟩
  have := h.len
  unfold sizeLine
  omega
theorem smq_all : ∀ {ds : List PyData}, (∀ d ∈ ds, Smq k W d) → PyData.showableAll ds = true ∧ PyData.depthAll ds ≤ k ∧ PyData.leavesShortAll 401 ds = true ∧ PyData.weightAll ds ≤ ds.length * (W + 1)
  | [], _ => ⟨rfl, by simp [PyData.depthAll], rfl, by simp [PyData.weightAll]⟩
  | d :: ds, h => by
    obtain ⟨a, c, e, f⟩ := smq_all (ds := ds) fun x hx => h x (List.mem_cons_of_mem _ hx)
    have g := h d (List.mem_cons_self ..)
    refine ⟨by simp [PyData.showableAll, g.sh, a], ?_, by simp [PyData.leavesShortAll, g.lf, e], ?_⟩
    · simp only [PyData.depthAll]
      exact Nat.max_le.mpr ⟨g.dp, c⟩
    · simp only [PyData.weightAll, List.length_cons, Nat.add_mul, Nat.one_mul]
      have := g.wt
      omega
theorem Smq.list {ds : List PyData} (h : ∀ d ∈ ds, Smq k W d) : Smq (k + 1) (ds.length * (W + 1)) (.list ds) := by
  obtain ⟨a, c, e, f⟩ := smq_all h
  refine ⟨by simpa [PyData.showable] using a, by simp only [PyData.depth]; omega, by simpa [PyData.leavesShort] using e, by simpa [PyData.weight] using f⟩
theorem Smq.tuple {ds : List PyData} (h : ∀ d ∈ ds, Smq k W d) : Smq (k + 1) (ds.length * (W + 1)) (.tuple ds) := by
  obtain ⟨a, c, e, f⟩ := smq_all h
  refine ⟨by simpa [PyData.showable] using a, by simp only [PyData.depth]; omega, by simpa [PyData.leavesShort] using e, by simpa [PyData.weight] using f⟩
/-- a value that can be shown: data, perhaps with dicts in it; or one with own instances, with its text -/
def Iq (P : Program) (w : World) (K : PySem.W.Frag) (mg : Str → Option Value) (base : Heap) (k W : Nat) (H : Hp) (v : V) : Prop :=
  (∃ d, Dq K H v d ∧ Smq k W d) ∨ (Mx K H v ∧ ∃ t : Str, t.length ≤ 403 * W + 403 ∧ Shs P w K mg base k H v t)
theorem Itv.iq {v : V} (h : Itv P w K mg base k W H v) : Iq P w K mg base k W H v := h.elim (fun ⟨d, h, s⟩ => .inl ⟨d, .dp h, .of s⟩) .inr
theorem Iq.same {H' : Hp} {v : V} (s : Same H H') (h : Iq P w K mg base k W H v) : Iq P w K mg base k W H' v := by
  rcases h with ⟨d, hd, hs⟩ | ⟨m, t, l, hs⟩
  · exact .inl ⟨d, Dq.same s hd, hs⟩
  · exact .inr ⟨m.same s, t, l, hs.same s⟩
theorem Iq.mono {k' W' : Nat} {v : V} (h : Iq P w K mg base k W H v) (h1 : k ≤ k') (h2 : W ≤ W') : Iq P w K mg base k' W' H v := by
  rcases h with ⟨d, hd, hs⟩ | ⟨m, t, l, hs⟩
  · exact .inl ⟨d, hd, hs.mono h1 h2⟩
  · exact .inr ⟨m, t, by omega, hs.up h1⟩
theorem Iq.shs (G : SmG K) {v : V} (h : Iq P w K mg base k W H v) (h1 : k ≤ 60) (h2 : W ≤ 40000) : ∃ t : Str, t.length ≤ 403 * W + 403 ∧ Shs P w K mg base k H v t := by
  rcases h with ⟨d, hd, hs⟩ | ⟨m, t, l, hs⟩
  · exact ⟨_, hs.len, .dq G hd (hs.shq h1 h2)⟩
  · exact ⟨t, l, hs⟩
theorem iqs_shl (G : SmG K) (h1 : k ≤ 60) (h2 : W ≤ 40000) : ∀ {xs : List V}, (∀ x ∈ xs, Iq P w K mg base k W H x) → ∃ ts, ShL P w K mg base k H xs ts ∧ (∀ t ∈ ts, t.length ≤ 403 * W + 403) ∧ ts.length = xs.length
  | [], _ => ⟨[], .nil, fun _ m => by simp at m, rfl⟩
  | x :: xs, h => by
    obtain ⟨t, l, hs⟩ := (h x (List.mem_cons_self ..)).shs G h1 h2
    obtain ⟨ts, h3, h4, h5⟩ := iqs_shl G h1 h2 (xs := xs) fun y m => h y (List.mem_cons_of_mem _ m)
    exact ⟨t :: ts, .cons hs h3, fun u m => (List.mem_cons.mp m).elim (fun e => e ▸ l) (h4 u), by simp [h5]⟩
theorem iqs_dat : ∀ {xs : List V}, (∀ x ∈ xs, Iq P w K mg base k W H x) → (¬ ∃ x ∈ xs, Mx K H x) → ∃ ds, DqAll K H xs ds ∧ (∀ d ∈ ds, Smq k W d) ∧ ds.length = xs.length
  | [], _, _ => ⟨[], .nil, fun _ m => by simp at m, rfl⟩
  | x :: xs, h, n => by
    rcases h x (List.mem_cons_self ..) with ⟨d, hd, hs⟩ | ⟨m, _⟩
    · obtain ⟨ds, h3, h4, h5⟩ := iqs_dat (xs := xs) (fun y m => h y (List.mem_cons_of_mem _ m)) fun ⟨y, m, z⟩ => n ⟨y, List.mem_cons_of_mem _ m, z⟩
      exact ⟨d :: ds, .cons hd h3, fun e m => (List.mem_cons.mp m).elim (fun z => z ▸ hs) (h4 e), by simp [h5]⟩
    · exact absurd ⟨x, List.mem_cons_self .., m⟩ n
theorem DqAll.same' {H' : Hp} (s : Same H H') {vs : List V} {ds : List PyData} (h : DqAll K H vs ds) : DqAll K H' vs ds := DqAll.same s h
/-- the text of each new list of such values -/
theorem lst_txt (G : SmG K) {xs : List V} {n : Nat} (h : ∀ x ∈ xs, Iq P w K mg base k W H x) (hn : xs.length ≤ n) (h1 : k ≤ 59) (h2 : n * (403 * W + 405) ≤ 10000000) (h3 : W ≤ 40000) :
    ∃ t : Str, t.length ≤ n * (403 * W + 806) + 806 ∧ ∀ {H' : Hp} {a : Addr}, Same H H' → H a = none → H' a = some (.lst xs) → Shs P w K mg base (k + 1) H' (.ref a) t := by
  by_cases c : ∃ x ∈ xs, Mx K H x
  · obtain ⟨ts, g1, g2, g3⟩ := iqs_shl G (by omega) h3 h
    have l1 := lstTxt_len ts
    have l2 := piled_le g2
    have l3 : ts.length * (403 * W + 403 + 2) ≤ n * (403 * W + 405) := Nat.mul_le_mul (by omega) (Nat.le_refl _)
    have l4 : n * (403 * W + 405) ≤ n * (403 * W + 806) := Nat.mul_le_mul (Nat.le_refl _) (by omega)
    exact ⟨listText ts, by omega, fun s f e => .lst s f e c g1 (by unfold sizeLine; omega)⟩
  · obtain ⟨ds, g1, g2, g3⟩ := iqs_dat h c
    have sm := Smq.list g2
    have l1 : ds.length * (W + 1) ≤ n * (W + 1) := Nat.mul_le_mul (by omega) (Nat.le_refl _)
    have l2 := sm.len
    have l3 : 403 * (n * (W + 1)) = n * (403 * W + 403) := by
      rw [← Nat.mul_assoc, Nat.mul_comm 403 n, Nat.mul_assoc, Nat.mul_add]
    have l4 : n * (403 * W + 403) ≤ n * (403 * W + 405) := Nat.mul_le_mul (Nat.le_refl _) (by omega)
    have l5 : n * (403 * W + 405) ≤ n * (403 * W + 806) := Nat.mul_le_mul (Nat.le_refl _) (by omega)
    have l6 : 403 * (ds.length * (W + 1)) ≤ 403 * (n * (W + 1)) := Nat.mul_le_mul (Nat.le_refl _) l1
    refine ⟨_, ?_, fun s f e => .dq G (.lst (SqL.of e) (DqAll.same s g1)) ⟨sm.sh, Nat.le_trans sm.dp (by omega), ?_⟩⟩
    · omega
    · unfold sizeLine
      omega
theorem Iq.tup (G : SmG K) {H0 : Hp} {a : Addr} {xs : List V} {n : Nat} (s : Same H0 H) (f : H0 a = none) (e : H a = some (.tup xs)) (h : ∀ x ∈ xs, Iq P w K mg base k W H0 x) (hn : xs.length ≤ n) (h1 : k ≤ 60) (h2 : n * (403 * W + 405) ≤ 10000000) (h3 : W ≤ 40000) : Iq P w K mg base (k + 1) (n * (W + 2) + 1) H (.ref a) := by
  by_cases c : ∃ x ∈ xs, Mx K H0 x
  · obtain ⟨ts, g1, g2, g3⟩ := iqs_shl G h1 h3 h
    have l1 := tupTxt_len ts
    have l2 := piled_le g2
    have l3 : ts.length * (403 * W + 403 + 2) ≤ n * (403 * W + 405) := Nat.mul_le_mul (by omega) (Nat.le_refl _)
    refine .inr ⟨?_, tupleText ts, ?_, .tup s f e c g1 (by unfold sizeLine; omega)⟩
    · obtain ⟨x, mx, hx⟩ := c
      exact .tup (SqT.of e) mx (hx.same s)
    · have : 403 * (n * (W + 2) + 1) = n * (403 * W + 806) + 403 := by
        rw [Nat.mul_add, ← Nat.mul_assoc, Nat.mul_comm 403 n, Nat.mul_assoc, Nat.mul_add]
      have : n * (403 * W + 405) ≤ n * (403 * W + 806) := Nat.mul_le_mul (Nat.le_refl _) (by omega)
      omega
  · obtain ⟨ds, g1, g2, g3⟩ := iqs_dat h c
    refine .inl ⟨_, .tup (SqT.of e) (DqAll.same s g1), (Smq.tuple g2).mono (Nat.le_refl _) ?_⟩
    have : ds.length * (W + 1) ≤ n * (W + 2) := Nat.mul_le_mul (by omega) (by omega)
    omega
theorem Iq.lst (G : SmG K) {H0 : Hp} {a : Addr} {xs : List V} {n : Nat} (s : Same H0 H) (f : H0 a = none) (e : H a = some (.lst xs)) (h : ∀ x ∈ xs, Iq P w K mg base k W H0 x) (hn : xs.length ≤ n) (h1 : k ≤ 60) (h2 : n * (403 * W + 405) ≤ 10000000) (h3 : W ≤ 40000) : Iq P w K mg base (k + 1) (n * (W + 2) + 1) H (.ref a) := by
  by_cases c : ∃ x ∈ xs, Mx K H0 x
  · obtain ⟨ts, g1, g2, g3⟩ := iqs_shl G h1 h3 h
    have l1 := lstTxt_len ts
    have l2 := piled_le g2
    have l3 : ts.length * (403 * W + 403 + 2) ≤ n * (403 * W + 405) := Nat.mul_le_mul (by omega) (Nat.le_refl _)
    refine .inr ⟨?_, listText ts, ?_, .lst s f e c g1 (by unfold sizeLine; omega)⟩
    · obtain ⟨x, mx, hx⟩ := c
      exact .lst (SqL.of e) mx (hx.same s)
    · have : 403 * (n * (W + 2) + 1) = n * (403 * W + 806) + 403 := by
        rw [Nat.mul_add, ← Nat.mul_assoc, Nat.mul_comm 403 n, Nat.mul_assoc, Nat.mul_add]
      have : n * (403 * W + 405) ≤ n * (403 * W + 806) := Nat.mul_le_mul (Nat.le_refl _) (by omega)
      omega
  · obtain ⟨ds, g1, g2, g3⟩ := iqs_dat h c
    refine .inl ⟨_, .lst (SqL.of e) (DqAll.same s g1), (Smq.list g2).mono (Nat.le_refl _) ?_⟩
    have : ds.length * (W + 1) ≤ n * (W + 2) := Nat.mul_le_mul (by omega) (by omega)
    omega
/-- a dict of texts and whole numbers -/
theorem iq_dct {a : Addr} {kvs : List (Key × V)} {ds : List PyData} (e : H a = some (.dK kvs)) (h : kvs.map (fun p => scD p.2) = ds.map some) (s : Smq k W (.dict ((kvs.map fun p => kyD p.1).zip ds))) : Iq P w K mg base k W H (.ref a) := .inl ⟨_, .dct e h, s⟩
end
end Mv
set_option Elab.async false
set_option maxRecDepth 100000
set_option maxHeartbeats 4000000
/-! repr of dicts in which own instances, lists, tuples lie. -/
namespace Mv
open PySem PySem.Spec PyProof.Rows L2
section
variable {X : Cx} {as : List Addr} {k : Nat} {H0 : Hp}
/-- the entries, shown -/
inductive RpD (X : Cx) (as : List Addr) (k : Nat) (H0 : Hp) : List (Key × V) → List Str → Prop
  | nil : RpD X as k H0 [] []
  | cons {y : Key} {v : V} {t : Str} {kvs : List (Key × V)} {ps : List Str} : Rp X as k H0 v t → RpD X as k H0 kvs ps → RpD X as k H0 ((y, v) :: kvs) (((kyD y).shown ++ ": " ++ t) :: ps)
theorem RpD.len : ∀ {kvs : List (Key × V)} {ps : List Str}, RpD X as k H0 kvs ps → ps.length = kvs.length
  | _, _, .nil => rfl
  | _, _, .cons _ h => by rw [List.length_cons, List.length_cons, h.len]
theorem RpD.get : ∀ {kvs : List (Key × V)} {ps : List Str} {i : Nat} {kv : Key × V}, RpD X as k H0 kvs ps → kvs[i]? = some kv → ∃ t, ps[i]? = some ((kyD kv.1).shown ++ ": " ++ t) ∧ Rp X as k H0 kv.2 t
  | _, _, 0, _, .cons (t := t) r _, e => by
    cases e
    exact ⟨t, rfl, r⟩
  | _, _, i + 1, _, .cons _ h, e => by
    obtain ⟨t, h1, h2⟩ := h.get (i := i) (by simpa using e)
    exact ⟨t, by simpa using h1, h2⟩
theorem RpD.up {H1 : Hp} (s : Same H0 H1) : ∀ {kvs : List (Key × V)} {ps : List Str}, RpD X as k H0 kvs ps → RpD X as k H1 kvs ps
  | _, _, .nil => .nil
  | _, _, .cons r h => .cons (r.up s) (h.up s)
theorem pairs_at {P : Program} {w : World} : ∀ {es : List DictEntry} {vs : List (Key × Value)} {kvs : List (Key × V)} {i : Nat} {kv : Key × V}, Pairs (mixKind P w) es vs → KV kvs vs → kvs[i]? = some kv → ∃ en, es[i]? = some en ∧ RelV kv.2 en.val ∧ ((∃ (n : Int) (t : Tok), kv.1 = .inl n ∧ en.key = .int n t) ∨ ∃ (n : Str) (t : Tok), kv.1 = .inr n ∧ en.key = .str n t)
  | [], vs, kvs, i, kv, p, r, e => by
    cases p
    cases r
    simp at e
  | en :: es, vs, kvs, 0, kv, p, r, e => by
    cases p with
    | cons p1 p2 p =>
      cases r with
      | cons r1 r =>
        cases e
        refine ⟨en, rfl, by rw [p2]; exact r1.2, ?_⟩
        obtain ⟨i, t, e1, e2⟩ | ⟨i, t, e1, e2⟩ := keyIs_shape (show keyIs _ _ = true from p1)
        · exact .inl ⟨i, t, by rw [← e1]; exact r1.1, e2⟩
        · exact .inr ⟨i, t, by rw [← e1]; exact r1.1, e2⟩
  | en :: es, vs, kvs, i + 1, kv, p, r, e => by
    cases p with
    | cons p1 p2 p =>
      cases r with
      | cons r1 r =>
        obtain ⟨e2, h1, h2⟩ := pairs_at (i := i) p r (by simpa using e)
        exact ⟨e2, by simpa using h1, h2⟩
theorem pairs_len {P : Program} {w : World} : ∀ {es : List DictEntry} {vs : List (Key × Value)} {kvs : List (Key × V)}, Pairs (mixKind P w) es vs → KV kvs vs → es.length = kvs.length
  | [], vs, kvs, p, r => by
    cases p
    cases r
    rfl
  | en :: es, vs, kvs, p, r => by
    cases p with
    | cons p1 p2 p =>
      cases r with
      | cons r1 r => rw [List.length_cons, List.length_cons, pairs_len p r]
/-! a known dict frozen for a while -/
section
variable {pins : List (Addr × Obj)} {σ σ0 : L2.St} {H : Hp} {s s0 : Shared} {a : Addr} {o : Obj} {kvs : List (Key × V)}
theorem hok_re {P : Program} {w : World} {h : Heap} {u u' : HO} (x : HOk P w H h) (e : H a = some u) (n1 : ∀ b, u ≠ .own b) (n2 : ∀ xs, u ≠ .tup xs) (new : ObjOk P w H h a u') : HOk P w (upd H a u') h := fun b v q => by
  have ho : ∀ {d} c, H c = some (.own d) → upd H a u' c = some (.own d) := fun {d} c z => by rw [upd_ne (fun y => by rw [y, e] at z; exact n1 d (Option.some.inj z))]; exact z
  have ht : ∀ c xs, H c = some (.tup xs) → upd H a u' c = some (.tup xs) := fun c xs z => by rw [upd_ne (fun y => by rw [y, e] at z; exact n2 xs (Option.some.inj z))]; exact z
  by_cases hb : b = a
  · subst hb
    rw [upd_same] at q
    cases q
    exact new.stay (fun _ _ _ q => q) (fun c => ho c) ht
  · rw [upd_ne hb] at q
    exact (x b v q).stay (fun _ _ _ q => q) (fun c => ho c) ht
theorem inv_re {u u' : HO} (I : Inv X pins σ H s) (e : H a = some u) (n1 : ∀ b, u ≠ .own b) (n2 : ∀ xs, u ≠ .tup xs) (n3 : ∀ ps, u ≠ .tbl ps) (n4 : ∀ ob v, X.H_0 a ≠ some (.frz ob v)) (new : ObjOk X.prog X.w H s.heap a u') : Inv X pins σ (upd H a u') s := by
  have nn : ∀ b, H b = none → upd H a u' b = none := fun b z => by rw [upd_ne (fun y => by rw [y, e] at z; cases z)]; exact z
  refine ⟨I.ok, I.os, I.bare, ⟨I.base.keep, I.base.slot, fun b ob e1 e2 e3 => nn b (I.base.free b ob e1 e2 e3), I.base.there, fun b xs e1 => ?_, fun b ob v e1 => ?_, fun b ps e1 => ?_⟩, I.loc, I.cell, nn _ I.free, fun x c z => nn _ (I.freeC x c z), fun p hp => ?_, hok_re I.hok e n1 n2 new, I.len⟩
  · have z := I.base.tups b xs e1
    rw [upd_ne (fun y => by rw [y, e] at z; exact n2 xs (Option.some.inj z))]
    exact z
  · have z := I.base.frzs b ob v e1
    rw [upd_ne (fun y : b = a => n4 ob v (by rw [← y]; exact e1))]
    exact z
  · obtain ⟨more, z⟩ := I.base.tbls b ps e1
    refine ⟨more, ?_⟩
    rw [upd_ne (fun y => by rw [y, e] at z; exact n3 _ (Option.some.inj z))]
    exact z
  · obtain ⟨h1, h2, h3⟩ := I.pin p hp
    exact ⟨h1, nn _ h2, h3⟩
theorem no_frz (I : Inv X pins σ H s) (e : H a = some (.dK kvs)) : ∀ ob v, X.H_0 a ≠ some (.frz ob v) := fun ob v z => by
  have := I.base.frzs a ob v z
  rw [e] at this
  cases this
theorem inv_frz (I : Inv X pins σ H s) (e : H a = some (.dK kvs)) (eo : s.heap.get? a = some o) : Inv X pins σ (upd H a (.frz o (.dK kvs))) s :=
  inv_re I e (fun _ z => by cases z) (fun _ z => by cases z) (fun _ z => by cases z) (no_frz I e) ⟨eo, I.hok _ _ e⟩
theorem inv_thaw (n : ∀ ob v, X.H_0 a ≠ some (.frz ob v)) (I : Inv X pins σ H s) (e : H a = some (.frz o (.dK kvs))) : Inv X pins σ (upd H a (.dK kvs)) s :=
  inv_re I e (fun _ z => by cases z) (fun _ z => by cases z) (fun _ z => by cases z) n (I.hok _ _ e).2
end
/-- all but what lies at a -/
def hid (a : Addr) (H : Hp) : Hp := fun b => if b = a then none else H b
theorem hid_at {a b : Addr} {H : Hp} {o : HO} (n : b ≠ a) (e : H b = some o) : hid a H b = some o := by
  unfold hid
  rw [if_neg n]
  exact e
theorem hid_some {a b : Addr} {H : Hp} {o : HO} (e : hid a H b = some o) : b ≠ a ∧ H b = some o := by
  unfold hid at e
  split at e
  · cases e
  · rename_i n
    exact ⟨n, e⟩
/-- a dict with an own instance in it, asked at the top: no repr is under way -/
structure DcRp (X : Cx) (as : List Addr) (k : Nat) (H0 : Hp) (a : Addr) (ps : List Str) : Prop where
  ex : ∃ kvs : List (Key × V), H0 a = some (.dK kvs) ∧ (∃ kv ∈ kvs, Mx X.K (hid a H0) kv.2) ∧ RpD X as k (hid a H0) kvs ps ∧ ∀ kv ∈ kvs, Shw (kyD kv.1)
  na : a ∉ as
theorem gd_dict (args : Args) : Gd (.builtin "dict.__repr__" args) := by
  refine ⟨fun A => ?_, fun A => ?_, fun A => ?_, fun A => ?_, isGuard_dict_repr args⟩ <;> first | rfl | simp [Around.under, Code.weight, Code.isCreation, Code.isGuard, Code.isCaller, Code.frames, Code.isFrame, guardIds, Code.cUnits, Code.envs, pushEnvs]
theorem at_dict {a : Addr} {ps : List Str} {A : Around} {g : List Code} {pins : List (Addr × Obj)} {σ : L2.St} {H : Hp} {s : Shared} {E : Value → Shared → Prop} {Q : Value → Shared → Prop} (h : DcRp X as k H0 a ps) (hz : (dictText ps).length ≤ sizeLine) (hf : A.frames = some X.stack) (hg : A.guards = some g) (go : GOk X.K (hid a H) g) (hcl : ∀ b ∈ a :: as, Clear g b) (hr : Room (k + 1) A) (I : Inv X pins σ H s) (sm : Same H0 H)
    (q : ∀ H' s' u, Inv X pins σ H' s' → Same H H' → Q (.str (dictText ps) u) s') : wpOwn (model X.prog X.w) A (.builtin "dict.__repr__" ⟨[.ref a], []⟩) (Builtin.dictReprAt 0 ⟨[.ref a], []⟩) (fun fin s' => match fin with | .done f => callEnd Q E (.ok f) s' | .again c' => c'.quiet = true ∧ codeAny (model X.prog X.w) A c' (callEnd Q E) s') (fun e s' => callEnd Q E (.error e) s') s := by
  obtain ⟨kvs, ea, ⟨kv0, mk0, mx0⟩, hT, hky⟩ := h.ex
  have ea' := sm _ _ ea
  obtain ⟨_, hsys, vs, rk, o, es, ep, eo, hd, ed, hk, hp, _⟩ := id (I.hok _ _ ea')
  have hlen : ps.length = es.size := by rw [hT.len]; have := pairs_len hp rk; simpa using this.symm
  have hp3 := piled_le_dictText ps
  have G := gd_dict ⟨[.ref a], []⟩
  have hTy : s.TypeIs (.ref a) "dict" := ⟨o, eo, hd.1⟩
  have hca : Clear g a := hcl a (.head _)
  unfold Builtin.dictReprAt
  refine wpOwn_bind (wpOwn_of_wpAny ?_)
  unfold Builtin.Dict.dictSlotNone
  refine wpAny_bind (wpAny_notOrdered_dict hTy ?_)
  show wpAny _ _ (pure (Value.ref a)) _ _ s
  refine wpAny_pure ?_
  rw [dictReprRunning_eq]
  refine wpOwn_bind (wpOwn_stackTailAny hg (dictGuardF_off _) (dictGuardF_pos _) ?_)
  have hn : (g.any fun c => dictGuardF (.ref a) (c, default)) = false := by
    rw [List.any_eq_false]
    intro c hcm
    rw [dictGuardF_of_clear hca c hcm]
    exact Bool.false_ne_true
  rw [hn]
  refine wpOwn_of_wpAny ?_
  have hg' := guards_under_guard G.gd hg
  show wpAny _ _ (Builtin.Dict.addrOf (.ref a) >>= _) _ _ s
  refine wpAny_bind (wpAny_pure ?_)
  show wpAny _ _ (Builtin.Dict.showsAll a >>= _) _ _ s
  unfold Builtin.Dict.showsAll
  rw [if_neg (by rw [hsys]; exact Bool.false_ne_true)]
  refine wpAny_bind (wpAny_pure ?_)
  refine wpAny_bind (wpAny_dictEpoch eo ed ?_)
  refine wpAny_bind (wpAny_dictEntries eo ed ?_)
  refine wpAny_bind ?_
  have n0 := no_frz I ea'
  have IF := inv_frz I ea' eo
  have s0F : Same (hid a H0) (upd H a (.frz o (.dK kvs))) := fun b v e => by
    obtain ⟨n, e⟩ := hid_some e
    rw [upd_ne n]
    exact sm _ _ e
  have sF0 : Same (hid a H) (upd H a (.frz o (.dK kvs))) := fun b v e => by
    obtain ⟨n, e⟩ := hid_some e
    rw [upd_ne n]
    exact e
  have mtF : Mx X.K (upd H a (.frz o (.dK kvs))) (.ref a) := .dct (.inr ⟨o, upd_same⟩) mk0 (mx0.same s0F)
  have goF : GOk X.K (upd H a (.frz o (.dK kvs))) (.builtin "dict.__repr__" ⟨[.ref a], []⟩ :: g) := (go.same sF0).cons mtF
  have hcl' : ∀ b ∈ as, Clear (.builtin "dict.__repr__" ⟨[.ref a], []⟩ :: g) b := fun b hb => (hcl b (.tail _ hb)).cons (a := a) fun e => h.na (e ▸ hb)
  rw [Std.Legacy.Range.forIn_eq_forIn_range']
  simp only [Std.Legacy.Range.size, Nat.sub_zero, Nat.add_sub_cancel, Nat.div_one]
  refine wpAny_forIn_list _
    (fun rest' r s' => ∃ i H', rest' = List.range' i (es.size - i) ∧ i ≤ es.size ∧ r = (⟨(ps.take i).toArray, 0 + piled (ps.take i)⟩ : (Array Str × Nat)) ∧ Inv X pins σ H' s' ∧ Same (upd H a (.frz o (.dK kvs))) H')
    _ ?_ ?_ _ _ ⟨0, _, by simp, Nat.zero_le _, by simp [piled], IF, fun _ _ e => e⟩
  · rintro x rest' _ s' ⟨i, H', hr', hi, rfl, I', sF⟩
    have hlt : i < es.size := by
      rcases Nat.lt_or_ge i es.size with h | h
      · exact h
      · rw [Nat.sub_eq_zero_of_le h] at hr'; simp at hr'
    obtain ⟨rfl, hrest⟩ : x = i ∧ rest' = List.range' (i + 1) (es.size - (i + 1)) := by
      have e : es.size - i = (es.size - (i + 1)) + 1 := by omega
      rw [e, List.range'_succ] at hr'
      injection hr' with h1 h2
      exact ⟨h1, h2⟩
    have hkl : x < kvs.length := by have := hT.len; omega
    obtain ⟨en, een, rv, rky⟩ := pairs_at hp rk (List.getElem?_eq_getElem hkl)
    obtain ⟨t, hpt, rpv⟩ := hT.get (List.getElem?_eq_getElem hkl)
    have hes : es[x] = en := by
      have z : es.toList[x]? = some es[x] := by simp [hlt]
      rw [een] at z
      exact (Option.some.inj z).symm
    have shk := hky _ (List.getElem_mem hkl)
    have rpk : ∃ vk, RelV vk en.key ∧ Rp X [] k (hid a H0) vk (kyD kvs[x].1).shown := by
      rcases rky with ⟨m, tk, e1, e2⟩ | ⟨m, tk, e1, e2⟩
      · rw [e1] at shk ⊢
        exact ⟨.int m, by rw [e2]; exact ⟨tk, rfl⟩, Rp.dat (.int m) shk⟩
      · rw [e1] at shk ⊢
        exact ⟨.str m, by rw [e2]; exact ⟨tk, rfl⟩, Rp.dat (.str m) shk⟩
    obtain ⟨vk, rvk, rpk⟩ := rpk
    generalize (kyD kvs[x].1).shown = kt at hpt rpk
    have hpl : (kt ++ ": " ++ t).length = kt.length + 2 + t.length := by
      rw [strLen_append, strLen_append]; rfl
    have hp1 := piled_take_succ hpt
    have hp2 := piled_take_le ps (x + 1)
    rw [hpl] at hp1
    obtain ⟨eoF, _⟩ := I'.hok _ _ (sF _ _ upd_same)
    refine wpAny_bind (wpAny_dictEntries eoF ed ?_)
    rw [Array.getElem?_eq_getElem hlt, hes]
    refine wpAny_bind (wpAny_holding (wpAny_bind (rpk (0 + piled (ps.take x) + 1) (by omega) _ _ pins σ H' s' _ _ _ (by rw [G.fr]; exact hf) hg' (goF.same sF) (fun b mb => by cases mb) (G.room hr) I' (s0F.trans sF) rvk fun H1 s1 I1 s01 =>
      wpAny_bind (rpv (0 + piled (ps.take x) + (kt.length + 3)) (by omega) _ _ pins σ H1 s1 _ _ _ (by rw [G.fr]; exact hf) hg' (goF.same (sF.trans s01)) hcl' (G.room hr) I1 (s0F.trans (sF.trans s01)) rv fun H2 s2 I2 s12 => wpAny_pure ?_))))
    have sF2 := sF.trans (s01.trans s12)
    obtain ⟨eo2, _⟩ := I2.hok _ _ (sF2 _ _ upd_same)
    refine wpAny_bind (wpAny_dictEpoch eo2 ed ?_)
    rw [if_neg (by simp)]
    have e1 : (ps.take x).toArray.push (kt ++ ": " ++ t) = (ps.take (x + 1)).toArray := by
      rw [List.take_add_one, hpt]
      simp
    have e2 : 0 + piled (ps.take x) + (kt.length + t.length + 4) = 0 + piled (ps.take (x + 1)) := by omega
    refine wpAny_pure ⟨x + 1, H2, hrest, hlt, ?_, I2, sF2⟩
    rw [e1, e2]
  · rintro _ s' ⟨i, H', hr', hi, rfl, I', sF⟩
    have hin : i = es.size := by
      rcases Nat.lt_or_ge i es.size with h | h
      · have e : es.size - i = (es.size - (i + 1)) + 1 := by omega
        rw [e, List.range'_succ] at hr'; exact nomatch hr'
      · exact Nat.le_antisymm hi h
    rw [hin, ← hlen, List.take_length]
    refine wpAny_bind (wpAny_mkStr (wpAny_pure ?_) (by simpa [dictText] using hz))
    have IT := inv_thaw n0 I' (sF _ _ upd_same)
    have h1 := q (upd H' a (.dK kvs)) _ s'.toks (IT.tok (s'.toks + 1)) fun b v e => by
      by_cases hb : b = a
      · subst hb
        rw [ea'] at e
        cases e
        exact upd_same
      · rw [upd_ne hb]
        exact sF _ _ (by rw [upd_ne hb]; exact e)
    simpa [dictText] using h1
theorem Rt.dctM {a : Addr} {ps : List Str} (h : DcRp X as k H0 a ps) (hz : (dictText ps).length ≤ sizeLine) : Rt X (k + 1) H0 (.ref a) (dictText ps) := fun A pins σ H s u E Q hf hg hr I sm r q => by
  obtain rfl : u = Value.ref a := r
  obtain ⟨kvs, ea, _⟩ := h.ex
  obtain ⟨_, _, vs, rk, o, es, ep, eo, hd, ed, _⟩ := id (I.hok _ _ (sm _ _ ea))
  have r1 : Room (k + 1) A.in1 := hr.in1
  refine call_repr_slot (by have := r1.units0; exact this) ⟨o, eo, hd.1⟩ F.slot_dict_repr (wpAny_call (codeAny_call_builtin_own (Code.quiet_builtin _ (by decide +kernel)) F.entry_dict_repr (F.slot_dict_repr.check _ _ _ _ _ _ _ _ ⟨o, eo, hd.1⟩ (F.args_dict_repr_1 _) ?_)))
  exact at_dict (A := A.in1) h hz hf hg gok_nil (fun b _ => Clear.nil b) r1 I sm fun H' s' t I' s2 => ⟨_, _, rfl, q H' s' t I' s2⟩
end
end Mv
set_option Elab.async false
set_option maxRecDepth 100000
set_option maxHeartbeats 4000000
/-! The text of a dict whose values can be shown. -/
namespace Mv
open PySem PySem.Spec PyProof.Rows L2
theorem kv_keys {P : Program} {w : World} {h : Heap} : ∀ {es : List DictEntry} {vs : List (Key × Value)} {kvs : List (Key × V)}, Pairs (mixKind P w) es vs → KV kvs vs → ReadsAll h (es.map (·.key)) (kvs.map fun p => kyD p.1) [] ∧ Vals (kvs.map (·.2)) (es.map (·.val))
  | [], vs, kvs, p, r => by
    cases p
    cases r
    exact ⟨.nil, .nil⟩
  | en :: es, vs, kvs, p, r => by
    cases p with
    | cons p1 p2 p =>
      cases r with
      | cons r1 r =>
        obtain ⟨h1, h2⟩ := kv_keys (h := h) p r
        refine ⟨?_, ?_⟩
        · rw [List.map_cons, List.map_cons]
          refine ReadsAll.cons (as := []) (bs := []) ?_ h1
          rw [r1.1]
          obtain ⟨i, t, e1, e2⟩ | ⟨i, t, e1, e2⟩ := keyIs_shape (show keyIs _ _ = true from p1)
          · rw [e1, e2]
            exact .int i t
          · rw [e1, e2]
            exact .str i t
        · rw [List.map_cons, List.map_cons]
          exact .cons (by rw [p2]; exact r1.2) h2
section
variable {X : Cx} {k : Nat} {H0 : Hp}
/-- a dict of data -/
theorem Rt.dcd (G : SmG X.K) {a : Addr} {kvs : List (Key × V)} {ds : List PyData} (ea : H0 a = some (.dK kvs)) (hd : DqAll X.K H0 (kvs.map (·.2)) ds) (hl : ds.length = kvs.length) (hs : Shq (.dict ((kvs.map fun p => kyD p.1).zip ds))) : Rt X k H0 (.ref a) (PyData.dict ((kvs.map fun p => kyD p.1).zip ds)).shown := fun A pins σ H s u E Q hf hg hr I sm r q => by
  obtain ⟨s1, s3, s4⟩ := hs
  obtain rfl : u = Value.ref a := r
  obtain ⟨_, ns, vs, rk, o, es, ep, eo, hdc, ed, hk, hp, _⟩ := id (I.hok _ _ (sm _ _ ea))
  obtain ⟨h1, h2⟩ := kv_keys (h := s.heap) hp rk
  obtain ⟨as, rd, n1⟩ := Dq.readsAll G I ds _ _ (DqAll.same sm hd) h2
  have l1 : (kvs.map fun p => kyD p.1).length = ds.length := by rw [List.length_map, hl]
  have rdd : Reads s.heap (.ref a) (.dict ((kvs.map fun p => kyD p.1).zip ds)) (a :: ([] ++ as)) := by
    refine Reads.dict (as := []) (bs := as) eo hdc.1 ed ?_ ?_
    · rw [List.map_fst_zip (by omega)]
      exact h1
    · rw [List.map_snd_zip (by omega)]
      exact rd
  have nn : sysModules ∉ a :: ([] ++ as) := fun m => by
    rcases List.mem_cons.mp m with e | m
    · rw [← e] at ns
      simp at ns
    · exact n1 (by simpa using m)
  exact repr_of_reads' rdd s1 (fun _ => nn) hg (by have := hr.un; omega) (fun _ _ e => e) (fun h' tk tk' kp => q H _ tk (I.kept kp) fun _ _ e => e) s4
end
/-- keys and texts -/
def kvTxt : List (Key × V) → List Str → List Str
  | kv :: kvs, t :: ts => ((kyD kv.1).shown ++ ": " ++ t) :: kvTxt kvs ts
  | _, _ => []
theorem rpd_of {X : Cx} {as : List Addr} {k : Nat} {H : Hp} : ∀ {kvs : List (Key × V)} {ts : List Str}, RpL X as k H (kvs.map (·.2)) ts → RpD X as k H kvs (kvTxt kvs ts)
  | [], _, h => by
    cases h
    exact .nil
  | kv :: kvs, _, h => by
    rw [List.map_cons] at h
    cases h with
    | cons r h => exact .cons r (rpd_of h)
theorem kvTxt_sum : ∀ {kvs : List (Key × V)} {ts : List Str} {A B : Nat}, (∀ kv ∈ kvs, (kyD kv.1).shown.length ≤ A) → (∀ t ∈ ts, t.length ≤ B) → ((kvTxt kvs ts).map (·.length)).sum ≤ kvs.length * (A + B + 2) ∧ (kvTxt kvs ts).length ≤ kvs.length
  | [], ts, A, B, _, _ => by cases ts <;> simp [kvTxt]
  | kv :: kvs, [], A, B, _, _ => by simp [kvTxt]
  | kv :: kvs, t :: ts, A, B, h1, h2 => by
    obtain ⟨i1, i2⟩ := kvTxt_sum (kvs := kvs) (ts := ts) (fun x m => h1 x (List.mem_cons_of_mem _ m)) (fun x m => h2 x (List.mem_cons_of_mem _ m))
    have a1 := h1 kv (List.mem_cons_self ..)
    have a2 := h2 t (List.mem_cons_self ..)
    have a3 : ((kyD kv.1).shown ++ ": " ++ t).length = (kyD kv.1).shown.length + 2 + t.length := by rw [strLen_append, strLen_append]; rfl
    have a4 : (kvs.length + 1) * (A + B + 2) = kvs.length * (A + B + 2) + (A + B + 2) := Nat.succ_mul _ _
    refine ⟨?_, ?_⟩
    · show (((kyD kv.1).shown ++ ": " ++ t) :: kvTxt kvs ts |>.map (·.length)).sum ≤ (kvs.length + 1) * (A + B + 2)
      rw [List.map_cons, List.sum_cons]
      omega
    · show (kvTxt kvs ts).length + 1 ≤ kvs.length + 1
      omega
section
variable {P : Program} {w : World} {K : PySem.W.Frag} {mg : Str → Option Value} {base : Heap} {k W : Nat} {H : Hp}
/-- the text of a dict, new to the heap where its values are known -/
theorem dct_txt (G : SmG K) {kvs : List (Key × V)} {n A : Nat} (h : ∀ kv ∈ kvs, Iq P w K mg base k W H kv.2) (hky : ∀ kv ∈ kvs, Shw (kyD kv.1) ∧ (kyD kv.1).shown.length ≤ A) (hn : kvs.length ≤ n) (h1 : k ≤ 58) (h2 : n * (403 * W + A + 410) ≤ 10000000) (h3 : W ≤ 40000)
    (hdat : ∀ ds : List PyData, (∀ d ∈ ds, Smq k W d) → ds.length = kvs.length → Shq (.dict ((kvs.map fun p => kyD p.1).zip ds))) :
    ∃ t : Str, ∀ {H' : Hp} {a : Addr}, Same H H' → H a = none → H' a = some (.dK kvs) → Tps P w K mg base (k + 1) H' (.ref a) t := by
  have hx : ∀ x ∈ kvs.map (·.2), Iq P w K mg base k W H x := fun x m => by
    obtain ⟨kv, mk, rfl⟩ := List.mem_map.mp m
    exact h kv mk
  by_cases c : ∃ x ∈ kvs.map (·.2), Mx K H x
  · obtain ⟨ts, g1, g2, g3⟩ := iqs_shl G (by omega) h3 hx
    obtain ⟨as, n1, hr⟩ := g1.nest
    obtain ⟨l1, l2⟩ := kvTxt_sum (A := A) (B := 403 * W + 403) (fun kv m => (hky kv m).2) g2
    have l3 : (dictText (kvTxt kvs ts)).length ≤ sizeLine := by
      have z := dictText_len_le (kvTxt kvs ts)
      have z2 : kvs.length * (A + (403 * W + 403) + 2) ≤ n * (A + (403 * W + 403) + 2) := Nat.mul_le_mul hn (Nat.le_refl _)
      have z3 : n * (A + (403 * W + 403) + 2) + n * 2 ≤ n * (403 * W + A + 410) := by
        rw [← Nat.mul_add]
        exact Nat.mul_le_mul (Nat.le_refl _) (by omega)
      have z4 : (kvTxt kvs ts).length * 2 ≤ n * 2 := Nat.mul_le_mul (Nat.le_trans l2 hn) (Nat.le_refl _)
      unfold sizeLine
      omega
    refine ⟨dictText (kvTxt kvs ts), fun {H' a} s f e => ⟨fun X o => Rt.dctM (as := as) ⟨⟨kvs, e, ?_, ?_, fun kv m => (hky kv m).1⟩, fun m => n1 a m f⟩ l3⟩⟩
    · have s' : Same H (hid a H') := fun b u q => hid_at (ne_of_none q f) (s _ _ q)
      obtain ⟨x, mx, hm⟩ := c
      obtain ⟨kv, m, rfl⟩ := List.mem_map.mp mx
      have ek := ovK o
      exact ⟨kv, m, by rw [ek]; exact hm.same s'⟩
    · have s' : Same H (hid a H') := fun b u q => hid_at (ne_of_none q f) (s _ _ q)
      exact (rpd_of (hr X o)).up s'
  · obtain ⟨ds, g1, g2, g3⟩ := iqs_dat hx c
    rw [List.length_map] at g3
    exact ⟨_, fun {H' a} s f e => ⟨fun X o => Rt.dcd (by rw [ovK o]; exact G) e (by rw [ovK o]; exact DqAll.same s g1) g3 (hdat ds g2 g3)⟩⟩
end
end Mv
set_option Elab.async false
set_option maxRecDepth 100000
set_option maxHeartbeats 8000000
set_option exponentiation.threshold 6000
namespace T
open PySem L2 Mv
abbrev s_right : Stmt := top 59
theorem sc_right : FnScope ["_law_pot_here", "_law_menu", "_law_near", "_law_far", "_law_k", "_law_some", "_law_parts", "_law_e", "_law_n"] ["_law_pot_here"] (defScope s_right) := ⟨rfl, rfl, rfl, by decide +kernel, rfl, by decide +kernel, by decide +kernel⟩
theorem go_dispS {σ : L2.St} {H : Hp} {Q : VK} {s : Str} {v : V} (q : ∀ d H', H d = none → Same H H' → H' d = some (.dK [(.inr s, v)]) → Q (.ref d) H') : tDisp [(tC (.str s), tC v)] σ H Q := fun d n => by
  refine ⟨upd_same, [(.inr s, v)], rfl, Nat.le_of_ble_eq_true rfl, q d _ n (fun c o e => ?_) upd_same⟩
  rw [upd_ne (ne_of_none e n), upd_ne (ne_of_none e n)]
  exact e
/-- the heap without p -/
def wo (p : Addr) (H : Hp) : Hp := fun c => if c = p then none else H c
section
variable {p c : Addr} {H H' : Hp} {o : HO}
theorem wo_at (n : c ≠ p) (e : H c = some o) : wo p H c = some o := by
  unfold wo
  rw [if_neg n]
  exact e
theorem wo_sub : Same (wo p H) H := fun c o e => by
  unfold wo at e
  by_cases h : c = p
  · rw [if_pos h] at e
    cases e
  · rw [if_neg h] at e
    exact e
theorem wo_bu (b : Bu p H H') : Same (wo p H) (wo p H') := fun c o e => by
  unfold wo at e
  by_cases h : c = p
  · rw [if_pos h] at e
    cases e
  · rw [if_neg h] at e
    exact wo_at h (b c o h e)
end
/-- data that can be shown -/
def Dat (K : PySem.W.Frag) (H : Hp) (v : V) : Prop := ∃ d, Dq K H v d ∧ Smq 3 1000 d
theorem Dat.same {K : PySem.W.Frag} {H H' : Hp} {v : V} (h : Dat K H v) (s : Same H H') : Dat K H' v := let ⟨d, h1, h2⟩ := h; ⟨d, Dq.same s h1, h2⟩
section
variable {P : Program} {w : World} {K : PySem.W.Frag} {mg : Str → Option Value} {base : Heap} {xInvalidNumber xInvalidPhase xInvalidSign xInvalidPair xInvalidLength xInvalidClosed xInvalidAxis xInvalidName xInvalidPlace xInvalidKind xInvalidDirection xInvalidMove xInvalidEdges xInvalidBegins xInvalidEntry xInvalidReach xInvalidDistance xInvalidLooks xInvalidPlaces xInvalidWord xInvalidTarget xInvalidState xInvalidRule xInvalidTable xInvalidMap xInvalidPlan xInvalidGauge xInvalidClaim xInvalidCommand xInvalidRounds xInvalidStates xInvalidMoves xInvalidText xUnknownWord xCommandFailed xNotBalanced xOtherPlan xOtherMap xNoNeighbour xTooMany xDividedByZero xNothingToUndo xCellError xMissingError xStateError xLimitError : Addr}
def sp_right : Sp := fun vs H Q _ => ∃ (p : Addr), vs = [.ref p] ∧ Pot H p ∧ ∀ H', Pot H' p → Bu p H H' → Q (.bl true) H'
theorem c_right {p : Addr} {H : Hp} {Q : VK} {E : XK} (h0 : Pot H p) (q : ∀ H', Pot H' p → Bu p H H' → Q (.bl true) H') : sp_right  [.ref p] H Q E := ⟨_, rfl, h0, q⟩
local macro_rules | `(tactic| tb_rel) => `(tactic| repeat (first
  | with_reducible assumption
  | with_reducible exact Dp.int _
  | with_reducible exact Dp.str _
  | with_reducible exact Dp.bl _
  | with_reducible exact Dp.non
  | (with_reducible apply SqT.of; with_reducible assumption)
  | (with_reducible apply SqL.of; with_reducible assumption)
  | (with_reducible apply up_dp; with_reducible assumption)
  | (with_reducible apply up_sqt; with_reducible assumption)
  | (with_reducible apply up_sql; with_reducible assumption)
  | (with_reducible apply up_get; with_reducible assumption)
  | (with_reducible apply up_pot; with_reducible assumption)
  | with_reducible exact Same.refl _
  | with_reducible exact Bu.refl _ _
  | (with_reducible apply up_same; with_reducible assumption)
  | (with_reducible apply up_bu; with_reducible assumption)
  | (with_reducible apply bu_bu; with_reducible assumption)
  | (with_reducible apply free_of; with_reducible assumption)
  | (with_reducible apply mi_fr; with_reducible assumption; (focus (tb_rel; done)))
  | (with_reducible apply mi_dp; with_reducible assumption)
  | (with_reducible apply mi_sqt; with_reducible assumption)
  | (with_reducible apply mi_sql; with_reducible assumption)
  | (with_reducible apply mi_gett; with_reducible assumption)
  | (with_reducible apply mi_getl; with_reducible assumption)
  | (with_reducible apply mi_pot; with_reducible assumption)
  | (with_reducible apply mi_refl; with_reducible assumption; (focus (with_unfolding_all exact rfl)))
  | (with_reducible apply up_mi; with_reducible assumption)
  | (with_reducible apply mi_mi; with_reducible assumption)
  | (with_reducible apply mi_bu; with_reducible assumption)
  | (with_reducible apply bu_gett; with_reducible assumption; (focus (tb_rel; done)))
  | (with_reducible apply bu_geti; with_reducible assumption; (focus (tb_rel; done)))
  | (with_reducible apply bu_get; with_reducible assumption; (focus (tlg_ne; done)))
  | (with_reducible apply bu_sqt; with_reducible assumption; (focus (tb_rel; done)))
  | (with_reducible apply bu_sql; with_reducible assumption; (focus (tlg_ne; done)))
  | (with_reducible apply bu_dp; with_reducible assumption; (focus (tb_rel; done)); (focus (lcg_src; done)))
  | fail "up"))
local macro_rules | `(tactic| tlg_ne) => `(tactic| first
  | with_reducible assumption
  | (with_reducible apply pot_ne; with_reducible assumption; (focus (tb_rel; done)))
  | fail "ne")
local macro_rules | `(tactic| lcg_src) => `(tactic| first
  | with_reducible assumption
  | with_unfolding_all exact rfl
  | with_unfolding_all decide
  | with_unfolding_all exact Nat.ne_of_beq_eq_false rfl
  | (apply_assumption; done)
  | omega
  | (simp; done)
  | (simp; omega)
  | fail "sd")
local macro_rules | `(tactic| lcg_sub) => `(tactic| first
  | (unfold sizeLine; omega)
  | (simp only [List.length_cons, List.length_nil, List.length_append, List.length_map, List.length_replicate, List.length_take, List.length_drop]; unfold sizeLine; omega)
  | (simp; unfold sizeLine; omega)
  | fail "sz")
local macro_rules | `(tactic| nest_cls) => `(tactic| first
  | (tb_rel; done)
  | (with_reducible apply nmI; (focus (tb_rel; done)))
  | (with_reducible apply d_tup; (focus (tb_rel; done)); (focus (lsm_bools; done)))
  | (with_reducible apply d_lst; (focus (tb_rel; done)); (focus (lsm_bools; done)))
  | fail "dp")
local macro_rules | `(tactic| lsm_bools) => `(tactic| repeat (first
  | with_reducible exact DpAll.nil
  | with_reducible assumption
  | (with_reducible apply DpAll.cons; (focus (nest_cls; done)))
  | fail "dpa"))
local macro_rules | `(tactic| none_booked) => `(tactic| first | with_unfolding_all exact rfl | (with_reducible apply atI_nat; with_reducible assumption) | fail "ix")
local macro_rules | `(tactic| walk_at "go") => `(tactic| repeat (first
  | (focus (with_reducible refine go_var (v := ?_) ?_ ?_; rotate_left; (focus (with_unfolding_all exact rfl))))
  | with_reducible refine go_seq ?_
  | with_reducible refine go_cN ?_
  | with_reducible refine go_c ?_
  | with_reducible refine go_op ?_
  | with_reducible refine go_nil ?_
  | with_reducible refine go_cons ?_
  | with_reducible refine go_cb ?_
  | with_reducible refine go_call0 ?_
  | with_reducible refine go_asg ?_
  | (focus (with_reducible refine go_gname (σ' := ?_) ?_ ?_; rotate_left; (focus (simp only [List.set_cons_succ, List.set_cons_zero]; exact rfl))))
  | with_reducible refine go_par ?_
  | with_reducible refine go_par3 ?_
  | (focus (with_reducible refine go_par3k (σ' := ?_) ?_ ?_; rotate_left; (focus (simp only [List.set_cons_succ, List.set_cons_zero]; exact rfl))))
  | with_reducible refine go_bm ?_
  | (with_reducible apply go_bmL; (focus (tb_rel; done)))
  | (with_reducible apply go_fdX; (focus (with_reducible assumption; done)))
  | (with_reducible apply go_rI; (focus (with_reducible assumption; done)))
  | (focus (with_reducible refine go_par2 (σ' := ?_) ?_ ?_; rotate_left; (focus (simp only [List.set_cons_succ, List.set_cons_zero]; exact rfl))))
  | with_reducible refine go_ifs ?_
  | with_reducible refine go_test ?_
  | with_reducible refine go_tb ?_
  | with_reducible refine go_asb ?_
  | with_reducible refine go_asi ?_
  | with_reducible refine go_ret ?_
  | with_reducible refine go_retn ?_
  | with_reducible refine go_drop ?_
  | with_reducible refine go_next ?_
  | with_reducible refine go_and ?_
  | with_reducible refine go_or ?_
  | with_reducible refine go_not ?_
  | with_reducible refine go_andv ?_
  | with_reducible refine go_orv ?_
  | with_reducible refine go_notv ?_
  | with_reducible refine go_ife ?_
  | with_reducible refine go_chain ?_
  | with_reducible refine go_if1 ?_
  | with_reducible refine go_if0 ?_
  | with_reducible refine go_ifn1 ?_
  | with_reducible refine go_ifn0 ?_
  | (with_reducible apply go_ift; (focus (first | with_reducible rfl | with_reducible assumption | omega)))
  | (with_reducible apply go_ifnt; (focus (first | with_reducible rfl | with_reducible assumption | omega)))
  | (with_reducible apply go_iff; (focus (first | with_reducible assumption | omega)))
  | (with_reducible apply go_ifnf; (focus (first | with_reducible assumption | omega)))
  | with_reducible refine go_un ?_
  | with_reducible refine go_tup ?_
  | with_reducible refine go_lst ?_
  | (with_reducible apply go_newt; (focus (lcg_sub; done)); intros)
  | (with_reducible apply go_newl; (focus (lcg_sub; done)); intros)
  | with_reducible refine go_meth ?_
  | with_reducible refine go_for ?_
  | with_reducible refine go_lc ?_
  | with_reducible refine go_irng1 ?_
  | with_reducible refine go_irng2 ?_
  | with_reducible refine go_ilist ?_
  | with_reducible refine go_itup ?_
  | with_reducible refine go_izip ?_
  | with_reducible refine go_ienum ?_
  | (with_reducible apply go_rg1; (focus (lcg_src; done)))
  | (with_reducible apply go_rg2; (focus (lcg_src; done)); (focus (lcg_src; done)))
  | (with_reducible apply go_lsr; (focus (tb_rel; done)))
  | (with_reducible apply go_tpr; (focus (tb_rel; done)))
  | (with_reducible apply go_zpr; (focus (tb_rel; done)); (focus (tb_rel; done)))
  | (with_reducible apply go_zprT; (focus (tb_rel; done)); (focus (tb_rel; done)))
  | (with_reducible apply go_enrL; (focus (tb_rel; done)))
  | (with_reducible apply go_enrT; (focus (tb_rel; done)))
  | with_reducible refine go_prop ?_
  | with_reducible refine go_knr0 ?_
  | (with_reducible apply go_knr; (focus (with_unfolding_all exact rfl; done)); (focus (simp only [kSw2, kRev3, kId, List.nil_append, List.cons_append]; exact rfl)))
  | with_reducible refine go_mkn ?_
  | (with_reducible apply go_mkr; (focus (tb_rel; done)); (focus (with_unfolding_all exact rfl; done)))
  | with_reducible refine go_fld ?_
  | (with_reducible apply go_flr; (focus (tb_rel; done)); (focus (with_reducible assumption; done)); (focus (with_reducible assumption; done)); (focus (with_unfolding_all exact rfl; done)))
  | (with_reducible apply go_prr; (focus (tb_rel; done)))
  | (with_reducible apply go_mer; (focus (tb_rel; done)); (focus (with_unfolding_all exact rfl; done)))
  | with_reducible refine go_sfld ?_
  | (with_reducible apply go_sfr; (focus (tb_rel; done)); (focus (with_reducible assumption; done)); (focus (with_reducible assumption; done)); (focus (with_unfolding_all exact Nat.le_of_ble_eq_true rfl; done)); (focus (with_unfolding_all exact rfl; done)); intros)
  | with_reducible refine go_revt ?_
  | with_reducible refine go_make0 ?_
  | (focus (with_reducible refine go_aug (x := ?_) ?_ ?_; rotate_left; (focus (with_unfolding_all exact rfl))))
  | (focus (with_reducible refine go_augk (σ' := ?_) ?_ ?_; rotate_left; (focus (simp only [List.set_cons_succ, List.set_cons_zero]; exact rfl))))
  | with_reducible refine go_min2 ?_
  | with_reducible refine go_int1 ?_
  | with_reducible refine go_max2 ?_
  | with_reducible refine go_intB ?_
  | with_reducible refine go_absN ?_
  | with_reducible refine go_isN ?_
  | with_reducible refine go_notN ?_
  | (with_reducible apply go_rvt; (focus (tb_rel; done)); (focus (simp only [List.reverse_cons, List.reverse_nil, List.nil_append, List.cons_append]; exact rfl)); intros)
  | (with_reducible apply go_reprNm; (focus (tb_rel; done)); (focus (with_reducible assumption; done)))
  | (with_reducible apply go_reprPr; (focus (nest_cls; done)); (focus (lcg_src; done)); (focus (lcg_src; done)))
  | with_reducible refine go_sl ?_
  | with_reducible refine go_part ?_
  | with_reducible refine go_nopart ?_
  | (with_reducible apply go_gtup; (focus (tb_rel; done)); (focus (with_unfolding_all exact rfl; done)))
  | (with_reducible apply go_gunl; (focus (tb_rel; done)); (focus (with_unfolding_all exact rfl; done)))
  | with_reducible refine go_gcons ?_
  | with_reducible refine go_gnil ?_
  | with_reducible refine go_addN ?_
  | with_reducible refine go_ltN ?_
  | with_reducible refine go_leN ?_
  | with_reducible refine go_gtN ?_
  | with_reducible refine go_geN ?_
  | (with_reducible apply go_subN; (focus (omega; done)))
  | with_reducible refine go_rI0 ?_
  | (with_reducible apply go_mulN; (focus (omega; done)))
  | (with_reducible apply go_modN; (focus (omega; done)))
  | (with_reducible apply go_divN; (focus (omega; done)))
  | (with_reducible apply go_powN; (focus (with_unfolding_all decide; done)))
  | with_reducible refine go_rU ?_
  | with_reducible refine go_eqN ?_
  | with_reducible refine go_neN ?_
  | with_reducible refine go_isB ?_
  | with_reducible refine go_notB ?_
  | with_reducible refine go_eqS ?_
  | with_reducible refine go_neS ?_
  | with_reducible refine go_eqB ?_
  | with_reducible refine go_eqI ?_
  | with_reducible refine go_neI ?_
  | (with_reducible apply go_ixt; (focus (tb_rel; done)); (focus (none_booked; done)))
  | (with_reducible apply go_ixl; (focus (tb_rel; done)); (focus (none_booked; done)))
  | (with_reducible apply go_lent; (focus (tb_rel; done)))
  | (with_reducible apply go_lenNm; (focus (tb_rel; done)))
  | (with_reducible apply go_isiNm; (focus (tb_rel; done)))
  | (with_reducible apply go_lenl; (focus (tb_rel; done)))
  | (with_reducible apply go_catA; (focus (tb_rel; done)); (focus (tb_rel; done)); (focus (lcg_sub; done)); intros)
  | (with_reducible apply go_slaT; (focus (tb_rel; done)); intros)
  | (with_reducible apply go_slaD; (focus (tb_rel; done)); intros)
  | (with_reducible apply go_rep; (focus (tb_rel; done)); (focus (lcg_src; done)); intros)
  | (with_reducible apply go_tupofl; (focus (tb_rel; done)); intros)
  | (with_reducible apply go_sllT; (focus (tb_rel; done)); intros)
  | (with_reducible apply go_sllD; (focus (tb_rel; done)); intros)
  | (with_reducible apply go_cat; (focus (tb_rel; done)); (focus (tb_rel; done)); (focus (lcg_sub; done)); intros)
  | (with_reducible apply c_lall; intros)
  | (with_reducible apply c_ldueg; (focus (lcg_src; done)); intros)
  | (with_reducible apply c_lflags; (focus (lcg_src; done)); (focus (lcg_src; done)); (focus (lcg_src; done)); intros)
  | (with_reducible apply c_lground; intros)
  | (with_reducible apply c_lgrounds; (focus (lcg_src; done)); (focus (lcg_src; done)); (focus (lcg_src; done)); (focus (lcg_src; done)); intros)
  | (with_reducible apply c_lkept; (focus (lcg_src; done)); (focus (lcg_src; done)); (focus (lcg_src; done)); intros)
  | (with_reducible apply c_lwidth; intros)
  | (with_reducible apply c_pick; (focus (tb_rel; done)); (focus (tlg_ne; done)); (focus (tb_rel; done)); (focus (lcg_src; done)); (focus (lcg_src; done)); intros)
  | (with_reducible apply c_right; (focus (tb_rel; done)); intros)
  | with_reducible refine go_ev1 ?_
  | with_reducible refine go_ev2 ?_
  | with_reducible refine go_evk ?_
  | with_reducible refine go_evf ?_
  | (with_reducible apply go_dispS; intros)
  | (with_reducible apply go_dispN; intros)
  | fail "go"))
theorem lc_picks {H : Hp} {p m : Addr} {xs : List V} {Q : VK} {a b c d e f g : Option V} (hp : Pot H p) (hm : H m = some (.lst xs)) (nm : m ≠ p) (hx : xs ≠ []) (hl : xs.length ≤ 1000)
    (hd : ∀ D H' y z, H D = none → D ≠ p → Bu p H H' → Pot H' p → H' D = some (.lst [y, z]) → y ∈ xs → z ∈ xs → Q (.ref D) H') :
    LcR (gName 4) tYes (tCall (sp_pick K) [] E0 (tCons (tVar 0) (tCons (tVar 1) tNil))) (List.map (fun x => x.snd) [(Str.ofString "_law_k", 4)]) [some (.ref p), some (.ref m), a, b, c, d, e, f, g] Q (Itr 0 2) H := by
  intro D hD
  have hDp : D ≠ p := hp.ne hD
  refine lc_it walk_range (fun i H' => Pot H' p ∧ Bu p H H' ∧ ∃ ys, H' D = some (.lst ys) ∧ ys.length = i ∧ ∀ y ∈ ys, y ∈ xs) ⟨hp.upd hDp, fun c o nc e => by rw [upd_ne (ne_of_none e hD)]; exact e, [], upd_same, rfl, fun y hy => by simp at hy⟩ (fun _ _ _ _ => trivial) ?_ ?_
  · rintro i x H2 H3 hi ⟨p2, b2, ys, eD, hn, hy⟩ ⟨rfl, rfl⟩
    refine ⟨rfl, ?_⟩
    have hm2 := b2 _ _ nm hm
    refine go_yes ?_
    walk_at "go"
    rename_i v H4 hv p4 b4
    have eD4 := b4 _ _ hDp eD
    refine ⟨ys, eD4, by unfold sizeLine; omega, p4.upd hDp, fun c o nc e => ?_, ys ++ [v], upd_same, by simp [hn], fun y my => ?_⟩
    · rw [upd_ne (ne_of_none e hD)]
      exact (b2.trans b4) c o nc e
    · rcases List.mem_append.mp my with z | z
      · exact hy y z
      · rw [List.mem_singleton.mp z]
        exact hv
  · rintro H2 ⟨p2, b2, ys, eD, hn, hy⟩
    match ys, hn, hy, eD with
    | [y, z], _, hy, eD => exact hd D H2 y z hD hDp b2 p2 eD (hy y (by simp)) (hy z (by simp))
theorem tk_tps (SM : SmG K) {H : Hp} {l : Addr} {a b : V} {d1 d2 : PyData} {n : Nat} (e : H l = some (.lst ([a, b].take n))) (q1 : Dq K H a d1) (z1 : Smq 3 1000 d1) (q2 : Dq K H b d2) (z2 : Smq 3 1000 d2) : Tps P w K mg base 6 H (.ref l) (PyData.shown (.list ([d1, d2].take n))) := by
  have hall : DqAll K H ([a, b].take n) ([d1, d2].take n) := by
    match n with
    | 0 => exact .nil
    | 1 => exact .cons q1 .nil
    | n + 2 =>
      rw [List.take_of_length_le (by simp), List.take_of_length_le (by simp)]
      exact .cons q1 (.cons q2 .nil)
  have hs : ∀ d ∈ [d1, d2].take n, Smq 3 1000 d := fun d hd => by
    have := List.mem_of_mem_take hd
    simp only [List.mem_cons, List.not_mem_nil, or_false] at this
    rcases this with rfl | rfl
    · exact z1
    · exact z2
  have hl : ([d1, d2].take n).length ≤ 2 := Nat.le_trans (List.length_take_le' ..) (by simp)
  exact (Shs.dq SM (.lst (SqL.of e) hall) (((Smq.list hs).mono (k' := 4) (W' := 5000) (by decide) (by omega)).shq (by decide) (by decide))).tps
theorem bl_all : ∀ bs : List Bool, PyData.eqvAll (bs.map PyData.bool) (bs.map PyData.bool) = true ∧ PyData.canLayAll0 (bs.map PyData.bool) = true ∧ PyData.depthAll (bs.map PyData.bool) = 0
  | [] => ⟨rfl, rfl, rfl⟩
  | b :: bs => by
    obtain ⟨h1, h2, h3⟩ := bl_all bs
    refine ⟨?_, ?_, ?_⟩
    · rw [List.map_cons, PyData.eqvAll, h1]
      cases b <;> rfl
    · rw [List.map_cons, PyData.canLayAll0, h2]
      rfl
    · rw [List.map_cons, PyData.depthAll, h3]
      rfl
theorem bools_dp {H : Hp} {l : Addr} {bs : List Bool} (h : H l = some (.lst (bs.map V.bl))) : Dp K H (.ref l) (.list (bs.map PyData.bool)) := d_lst h (DpAll.bools bs)
theorem sh_bools (bs : List Bool) : SeqAt.shaped (.list (bs.map PyData.bool)) = true := shaped_of (by rw [PyData.canLay0]; exact (bl_all bs).2.1) (by rw [PyData.depth, (bl_all bs).2.2]; decide)
theorem ne_bools {H : Hp} {l l' : Addr} {bs : List Bool} {Q : VK} (h1 : H l = some (.lst (bs.map V.bl))) (h2 : H l' = some (.lst (bs.map V.bl))) (q : Q (.bl false) H) : rNeD K (.ref l) (.ref l') H Q := ⟨_, _, bools_dp h1, bools_dp h2, sh_bools bs, sh_bools bs, by rw [PyData.eqv, (bl_all bs).1]; exact q⟩
theorem flL_map (fl : Nat → Bool) (n : Nat) : flL fl n = ((List.range n).map fl).map V.bl := by
  unfold flL
  rw [List.map_map]
  rfl
theorem dueL_map (g : Nat) : dueL g = ((List.range 4).map (fun j => decide (g = j)) ++ (List.range 8).map fun j => decide (g = j)).map V.bl := by
  unfold dueL
  rw [List.map_append, List.map_map, List.map_map]
  rfl
theorem ok_right {f : Addr} {fd : FuncData} (F : Df K "_law_right" "_law_right" s_right [] f fd) (B : Blt mg) (SM : SmG K) (cPk : Ca P w K mg base 2 "_law_pick" (sp_pick K) []) (cAll : Ca P w K mg base 3 "_law_all" (sp_lall (xInvalidNumber :: xInvalidPhase :: xInvalidSign :: xInvalidPair :: xInvalidLength :: xInvalidClosed :: xInvalidAxis :: xInvalidName :: xInvalidPlace :: xInvalidKind :: xInvalidDirection :: xInvalidMove :: xInvalidEdges :: xInvalidBegins :: xInvalidEntry :: xInvalidReach :: xInvalidDistance :: xInvalidLooks :: xInvalidPlaces :: xInvalidWord :: xInvalidTarget :: xInvalidState :: xInvalidRule :: xInvalidTable :: xInvalidMap :: xInvalidPlan :: xInvalidGauge :: xInvalidClaim :: xInvalidCommand :: xInvalidRounds :: xInvalidStates :: xInvalidMoves :: xInvalidText :: xUnknownWord :: xCommandFailed :: xNotBalanced :: xOtherPlan :: xOtherMap :: xNoNeighbour :: xTooMany :: xDividedByZero :: xNothingToUndo :: [])) []) (cNam : Ca P w K mg base 3 "_law_named" (sp_lall (xInvalidNumber :: xInvalidPhase :: xInvalidSign :: xInvalidPair :: xInvalidLength :: xInvalidClosed :: xInvalidAxis :: xInvalidName :: xInvalidPlace :: xInvalidKind :: xInvalidDirection :: xInvalidMove :: xInvalidEdges :: xInvalidBegins :: xInvalidEntry :: xInvalidReach :: xInvalidDistance :: xInvalidLooks :: xInvalidPlaces :: xInvalidWord :: xInvalidTarget :: xInvalidState :: xInvalidRule :: xInvalidTable :: xInvalidMap :: xInvalidPlan :: xInvalidGauge :: xInvalidClaim :: xInvalidCommand :: xInvalidRounds :: xInvalidStates :: xInvalidMoves :: xInvalidText :: xUnknownWord :: xCommandFailed :: xNotBalanced :: xOtherPlan :: xOtherMap :: xNoNeighbour :: xTooMany :: xDividedByZero :: xNothingToUndo :: [])) []) (cKep : Ca P w K mg base 3 "_law_kept" (sp_lkept K (xInvalidNumber :: xInvalidPhase :: xInvalidSign :: xInvalidPair :: xInvalidLength :: xInvalidClosed :: xInvalidAxis :: xInvalidName :: xInvalidPlace :: xInvalidKind :: xInvalidDirection :: xInvalidMove :: xInvalidEdges :: xInvalidBegins :: xInvalidEntry :: xInvalidReach :: xInvalidDistance :: xInvalidLooks :: xInvalidPlaces :: xInvalidWord :: xInvalidTarget :: xInvalidState :: xInvalidRule :: xInvalidTable :: xInvalidMap :: xInvalidPlan :: xInvalidGauge :: xInvalidClaim :: xInvalidCommand :: xInvalidRounds :: xInvalidStates :: xInvalidMoves :: xInvalidText :: xUnknownWord :: xCommandFailed :: xNotBalanced :: xOtherPlan :: xOtherMap :: xNoNeighbour :: xTooMany :: xDividedByZero :: xNothingToUndo :: [])) []) (cFlg : Ca P w K mg base 3 "_law_flags" (sp_lflags K (xInvalidNumber :: xInvalidPhase :: xInvalidSign :: xInvalidPair :: xInvalidLength :: xInvalidClosed :: xInvalidAxis :: xInvalidName :: xInvalidPlace :: xInvalidKind :: xInvalidDirection :: xInvalidMove :: xInvalidEdges :: xInvalidBegins :: xInvalidEntry :: xInvalidReach :: xInvalidDistance :: xInvalidLooks :: xInvalidPlaces :: xInvalidWord :: xInvalidTarget :: xInvalidState :: xInvalidRule :: xInvalidTable :: xInvalidMap :: xInvalidPlan :: xInvalidGauge :: xInvalidClaim :: xInvalidCommand :: xInvalidRounds :: xInvalidStates :: xInvalidMoves :: xInvalidText :: xUnknownWord :: xCommandFailed :: xNotBalanced :: xOtherPlan :: xOtherMap :: xNoNeighbour :: xTooMany :: xDividedByZero :: xNothingToUndo :: [])) []) (cGrs : Ca P w K mg base 3 "_law_grounds" (sp_lgrounds K [xCellError, xMissingError, xStateError, xLimitError]) []) (cGrd : Ca P w K mg base 1 "_law_ground" sp_lground []) (cWid : Ca P w K mg base 1 "_law_width" sp_lwidth []) (cDue : Cg P w K mg base 2 "_law_due_grounds" ["_law_ground_here"] sp_ldueg []) (eInvalidNumber : Ev1 P w K mg base "InvalidNumber" xInvalidNumber "value") (eInvalidPhase : Ev1 P w K mg base "InvalidPhase" xInvalidPhase "value") (eInvalidSign : Ev1 P w K mg base "InvalidSign" xInvalidSign "value") (eInvalidPair : Ev1 P w K mg base "InvalidPair" xInvalidPair "value") (eInvalidLength : Ev1 P w K mg base "InvalidLength" xInvalidLength "value") (eInvalidClosed : Ev1 P w K mg base "InvalidClosed" xInvalidClosed "value") (eInvalidAxis : Ev1 P w K mg base "InvalidAxis" xInvalidAxis "value") (eInvalidName : Ev1 P w K mg base "InvalidName" xInvalidName "value") (eInvalidPlace : Ev1 P w K mg base "InvalidPlace" xInvalidPlace "value") (eInvalidKind : Ev1 P w K mg base "InvalidKind" xInvalidKind "value") (eInvalidDirection : Ev1 P w K mg base "InvalidDirection" xInvalidDirection "value") (eInvalidMove : Ev1 P w K mg base "InvalidMove" xInvalidMove "value") (eInvalidEdges : Ev1 P w K mg base "InvalidEdges" xInvalidEdges "value") (eInvalidBegins : Ev1 P w K mg base "InvalidBegins" xInvalidBegins "value") (eInvalidEntry : Ev1 P w K mg base "InvalidEntry" xInvalidEntry "value") (eInvalidReach : Ev1 P w K mg base "InvalidReach" xInvalidReach "value") (eInvalidDistance : Ev1 P w K mg base "InvalidDistance" xInvalidDistance "value") (eInvalidLooks : Ev1 P w K mg base "InvalidLooks" xInvalidLooks "value") (eInvalidPlaces : Ev1 P w K mg base "InvalidPlaces" xInvalidPlaces "value") (eInvalidWord : Ev1 P w K mg base "InvalidWord" xInvalidWord "value") (eInvalidTarget : Ev1 P w K mg base "InvalidTarget" xInvalidTarget "value") (eInvalidState : Ev1 P w K mg base "InvalidState" xInvalidState "value") (eInvalidRule : Ev1 P w K mg base "InvalidRule" xInvalidRule "value") (eInvalidTable : Ev1 P w K mg base "InvalidTable" xInvalidTable "value") (eInvalidMap : Ev1 P w K mg base "InvalidMap" xInvalidMap "value") (eInvalidPlan : Ev1 P w K mg base "InvalidPlan" xInvalidPlan "value") (eInvalidGauge : Ev1 P w K mg base "InvalidGauge" xInvalidGauge "value") (eInvalidClaim : Ev1 P w K mg base "InvalidClaim" xInvalidClaim "value") (eInvalidCommand : Ev1 P w K mg base "InvalidCommand" xInvalidCommand "value") (eInvalidRounds : Ev1 P w K mg base "InvalidRounds" xInvalidRounds "position") (eInvalidStates : Ev1 P w K mg base "InvalidStates" xInvalidStates "position") (eInvalidMoves : Ev1 P w K mg base "InvalidMoves" xInvalidMoves "position") (eInvalidText : Ev1 P w K mg base "InvalidText" xInvalidText "line") (eUnknownWord : Ev1 P w K mg base "UnknownWord" xUnknownWord "value") (eCommandFailed : Ev1 P w K mg base "CommandFailed" xCommandFailed "position") (eNotBalanced : Ev2 P w K mg base "NotBalanced" xNotBalanced "columns" "rows") (eOtherPlan : Ev2 P w K mg base "OtherPlan" xOtherPlan "one" "other") (eOtherMap : Ev2 P w K mg base "OtherMap" xOtherMap "one" "other") (eNoNeighbour : Ev2 P w K mg base "NoNeighbour" xNoNeighbour "value" "move") (eTooMany : Ev2 P w K mg base "TooMany" xTooMany "what" "limit") (eDividedByZero : Ev0 K mg "DividedByZero" xDividedByZero) (eNothingToUndo : Ev0 K mg "NothingToUndo" xNothingToUndo) (eCellError : Ev0 K mg "CellError" xCellError) (eMissingError : Ev0 K mg "MissingError" xMissingError) (eStateError : Ev0 K mg "StateError" xStateError) (eLimitError : Ev0 K mg "LimitError" xLimitError) (eT : ErT K (xInvalidNumber :: xInvalidPhase :: xInvalidSign :: xInvalidPair :: xInvalidLength :: xInvalidClosed :: xInvalidAxis :: xInvalidName :: xInvalidPlace :: xInvalidKind :: xInvalidDirection :: xInvalidMove :: xInvalidEdges :: xInvalidBegins :: xInvalidEntry :: xInvalidReach :: xInvalidDistance :: xInvalidLooks :: xInvalidPlaces :: xInvalidWord :: xInvalidTarget :: xInvalidState :: xInvalidRule :: xInvalidTable :: xInvalidMap :: xInvalidPlan :: xInvalidGauge :: xInvalidClaim :: xInvalidCommand :: xInvalidRounds :: xInvalidStates :: xInvalidMoves :: xInvalidText :: xUnknownWord :: xCommandFailed :: xNotBalanced :: xOtherPlan :: xOtherMap :: xNoNeighbour :: xTooMany :: xDividedByZero :: xNothingToUndo :: []) [xCellError, xMissingError, xStateError, xLimitError]) : FnG P w K mg base 8 f fd ["_law_pot_here"] sp_right := by
  refine dfG F sc_right (fun vs H Q E h => ?_) (fun cdv A outer s H vs Q E hr ga h => ?_)
  · obtain ⟨p, rfl, _⟩ := h
    rfl
  · obtain ⟨p, rfl, hp, q⟩ := h
    have EF : ErF K (xInvalidNumber :: xInvalidPhase :: xInvalidSign :: xInvalidPair :: xInvalidLength :: xInvalidClosed :: xInvalidAxis :: xInvalidName :: xInvalidPlace :: xInvalidKind :: xInvalidDirection :: xInvalidMove :: xInvalidEdges :: xInvalidBegins :: xInvalidEntry :: xInvalidReach :: xInvalidDistance :: xInvalidLooks :: xInvalidPlaces :: xInvalidWord :: xInvalidTarget :: xInvalidState :: xInvalidRule :: xInvalidTable :: xInvalidMap :: xInvalidPlan :: xInvalidGauge :: xInvalidClaim :: xInvalidCommand :: xInvalidRounds :: xInvalidStates :: xInvalidMoves :: xInvalidText :: xUnknownWord :: xCommandFailed :: xNotBalanced :: xOtherPlan :: xOtherMap :: xNoNeighbour :: xTooMany :: xDividedByZero :: xNothingToUndo :: []) := erf_of eInvalidNumber eInvalidPhase eInvalidSign eInvalidPair eInvalidLength eInvalidClosed eInvalidAxis eInvalidName eInvalidPlace eInvalidKind eInvalidDirection eInvalidMove eInvalidEdges eInvalidBegins eInvalidEntry eInvalidReach eInvalidDistance eInvalidLooks eInvalidPlaces eInvalidWord eInvalidTarget eInvalidState eInvalidRule eInvalidTable eInvalidMap eInvalidPlan eInvalidGauge eInvalidClaim eInvalidCommand eInvalidRounds eInvalidStates eInvalidMoves eInvalidText eUnknownWord eCommandFailed eNotBalanced eOtherPlan eOtherMap eNoNeighbour eTooMany eDividedByZero eNothingToUndo
    clear eInvalidNumber eInvalidPhase eInvalidSign eInvalidPair eInvalidLength eInvalidClosed eInvalidAxis eInvalidName eInvalidPlace eInvalidKind eInvalidDirection eInvalidMove eInvalidEdges eInvalidBegins eInvalidEntry eInvalidReach eInvalidDistance eInvalidLooks eInvalidPlaces eInvalidWord eInvalidTarget eInvalidState eInvalidRule eInvalidTable eInvalidMap eInvalidPlan eInvalidGauge eInvalidClaim eInvalidCommand eInvalidRounds eInvalidStates eInvalidMoves eInvalidText eUnknownWord eCommandFailed eNotBalanced eOtherPlan eOtherMap eNoNeighbour eTooMany eDividedByZero eNothingToUndo
    generalize hcs : (xInvalidNumber :: xInvalidPhase :: xInvalidSign :: xInvalidPair :: xInvalidLength :: xInvalidClosed :: xInvalidAxis :: xInvalidName :: xInvalidPlace :: xInvalidKind :: xInvalidDirection :: xInvalidMove :: xInvalidEdges :: xInvalidBegins :: xInvalidEntry :: xInvalidReach :: xInvalidDistance :: xInvalidLooks :: xInvalidPlaces :: xInvalidWord :: xInvalidTarget :: xInvalidState :: xInvalidRule :: xInvalidTable :: xInvalidMap :: xInvalidPlan :: xInvalidGauge :: xInvalidClaim :: xInvalidCommand :: xInvalidRounds :: xInvalidStates :: xInvalidMoves :: xInvalidText :: xUnknownWord :: xCommandFailed :: xNotBalanced :: xOtherPlan :: xOtherMap :: xNoNeighbour :: xTooMany :: xDividedByZero :: xNothingToUndo :: []) = cs at cAll cNam cKep cFlg eT EF
    clear hcs
    refine ⟨_, (pss_cons (ps_set (i := 1) sc_right.nd rfl (Or.inr rfl) (pe_lst (pa_cons pe_non (pa_cons pe_int (pa_cons pe_int (pa_cons pe_bl (pa_cons pe_str (pa_cons pe_str (pa_cons (pe_tup (pa_cons pe_int (pa_cons pe_int pa_nil))) (pa_cons (pe_lst (pa_cons pe_str pa_nil)) (pa_cons (pe_disp (pps_cons pe_str pe_int pps_nil) (by rfl) (by rfl) (fun z => by cases z) (by decide)) (pa_cons (pe_un un_neg (pe_op op_pow pe_int pe_int)) (pa_cons (pe_tup (pa_cons pe_str (pa_cons pe_int pa_nil))) (pa_cons (pe_lst (pa_cons (pe_tup (pa_cons pe_int (pa_cons pe_int pa_nil))) (pa_cons (pe_tup (pa_cons pe_int (pa_cons pe_int pa_nil))) pa_nil))) (pa_cons (pe_op op_pow pe_int pe_int) pa_nil)))))))))))))))
  (pss_cons (ps_par (i := 2) (j := 3) (by rfl) sc_right.nd rfl rfl (by decide) rfl rfl (pa_cons (pe_lc (own := [("_law_k", 4)]) (by rfl) sc_right.nd (pi_range1 (by rfl) B.range (pa_cons pe_int pa_nil)) (blkOk_by (own := [("_law_k", 4)]) (N := ["_law_pot_here", "_law_menu", "_law_near", "_law_far", "_law_k", "_law_some", "_law_parts", "_law_e", "_law_n"]) (sc := defScope s_right) (by decide +kernel)) (fun _ _ _ _ _ => (pg_name (i := 4) sc_right.nd rfl (Or.inl rfl))) (fun _ _ _ _ _ => pts_nil) (fun _ _ _ _ _ => (pe_ca cPk hr (by decide) (by rfl) (pa_cons (pv 0) (pa_cons (pv 1) pa_nil))))) (pa_cons (pe_lc (own := [("_law_k", 4)]) (by rfl) sc_right.nd (pi_range1 (by rfl) B.range (pa_cons pe_int pa_nil)) (blkOk_by (own := [("_law_k", 4)]) (N := ["_law_pot_here", "_law_menu", "_law_near", "_law_far", "_law_k", "_law_some", "_law_parts", "_law_e", "_law_n"]) (sc := defScope s_right) (by decide +kernel)) (fun _ _ _ _ _ => (pg_name (i := 4) sc_right.nd rfl (Or.inl rfl))) (fun _ _ _ _ _ => pts_nil) (fun _ _ _ _ _ => (pe_ca cPk hr (by decide) (by rfl) (pa_cons (pv 0) (pa_cons (pv 1) pa_nil))))) pa_nil)) (by rfl))
  (pss_cons (ps_for PassesOwn.never rfl (pi_list' (pe_lst (pa_cons (pe_tup (pa_cons (pe_ca cAll hr (by decide) (by rfl) (pa_cons (pe_ix ix_list' (pv 2) pe_int (fun _ _ => rfl)) (pa_cons (pe_ix ix_list' (pv 2) pe_int (fun _ _ => rfl)) pa_nil))) (pa_cons (pv 2) pa_nil))) (pa_cons (pe_tup (pa_cons (pe_ca cNam hr (by decide) (by rfl) (pa_cons (pe_ix ix_list' (pv 3) pe_int (fun _ _ => rfl)) (pa_cons (pe_ix ix_list' (pv 3) pe_int (fun _ _ => rfl)) pa_nil))) (pa_cons (pv 3) pa_nil))) pa_nil)))) (pg_tup' 2 (pgs_cons (pg_name (i := 5) sc_right.nd rfl (Or.inl rfl)) (pgs_cons (pg_name (i := 6) sc_right.nd rfl (Or.inl rfl)) pgs_nil)))
  (pss_one (ps_for PassesOwn.never rfl (pi_enumA' (by rfl) B.enumerate (pa_cons (pv 5) pa_nil)) (pg_tup' 2 (pgs_cons (pg_name (i := 4) sc_right.nd rfl (Or.inr rfl)) (pgs_cons (pg_name (i := 7) sc_right.nd rfl (Or.inl rfl)) pgs_nil)))
  (pss_cons (ps_if (pt_cmpR op_ne (pe_callB (call_reprV (P := P) (w := w) (K := K) (mg := mg) (base := base) (k := 6) ga hr (by decide)) (by rfl) B.repr bt_repr (pa_cons (pe_ca cKep hr (by decide) (by rfl) (pa_cons (pv 4) (pa_cons (pv 7) pa_nil))) pa_nil)) (pe_callB (call_reprV (P := P) (w := w) (K := K) (mg := mg) (base := base) (k := 6) ga hr (by decide)) (by rfl) B.repr bt_repr (pa_cons (pe_slice sl_list' (pv 6) po_none (po_some (pe_ca cWid hr (by decide) (by rfl) (pa_cons (pv 4) pa_nil)))) pa_nil)) (nomark _))
  (pss_one (ps_ret pe_bl))
  pss_nil)
  (pss_one (ps_if (PW.pt (pw_or (pt_cmpR (op_neD' hr.units) (pe_ca cFlg hr (by decide) (by rfl) (pa_cons (pv 7) pa_nil)) (pe_lc (own := [("_law_n", 8)]) (by rfl) sc_right.nd (pi_range1 (by rfl) B.range (pa_cons pe_int pa_nil)) (blkOk_by (own := [("_law_n", 8)]) (N := ["_law_pot_here", "_law_menu", "_law_near", "_law_far", "_law_k", "_law_some", "_law_parts", "_law_e", "_law_n"]) (sc := defScope s_right) (by decide +kernel)) (fun _ _ _ _ _ => (pg_name (i := 8) sc_right.nd rfl (Or.inl rfl))) (fun _ _ _ _ _ => pts_nil) (fun _ _ _ _ _ => (pe_cmpR op_eq (pv 8) (pv 4) (nomark _)))) (nomark _)) (pw_or1 (pt_cmpR (op_neD' hr.units) (pe_ca cGrs hr (by decide) (by rfl) (pa_cons (pv 7) pa_nil)) (pe_g cDue hr ga (by decide) (by rfl) (pa_cons (pe_ca cGrd hr (by decide) (by rfl) (pa_cons (pv 4) pa_nil)) pa_nil)) (nomark _)))))
  (pss_one (ps_ret pe_bl))
  pss_nil))))))
  (pss_cons (ps_for PassesOwn.never rfl (pi_enumA' (by rfl) B.enumerate (pa_cons (pe_lst (pa_cons (pe_ev0 eCellError (by rfl)) (pa_cons (pe_ev0 eMissingError (by rfl)) (pa_cons (pe_ev0 eStateError (by rfl)) (pa_cons (pe_ev0 eLimitError (by rfl)) pa_nil))))) pa_nil)) (pg_tup' 2 (pgs_cons (pg_name (i := 4) sc_right.nd rfl (Or.inr rfl)) (pgs_cons (pg_name (i := 7) sc_right.nd rfl (Or.inl rfl)) pgs_nil)))
  (pss_one (ps_if (PW.pt (pw_or (pt_cmpR op_in_seq' pe_bl (pe_ca cFlg hr (by decide) (by rfl) (pa_cons (pv 7) pa_nil)) (by rfl)) (pw_or1 (pt_cmpR (op_neD' hr.units) (pe_ca cGrs hr (by decide) (by rfl) (pa_cons (pv 7) pa_nil)) (pe_g cDue hr ga (by decide) (by rfl) (pa_cons (pv 4) pa_nil)) (nomark _)))))
  (pss_one (ps_ret pe_bl))
  pss_nil)))
  (pss_one (ps_ret pe_bl)))))), ?_⟩
    refine go_start (σ := [some _, none, none, none, none, none, none, none, none]) rfl ?_
    walk_at "go"
    rename_i t1 H1 n1 s1 e1 l2 H2 n2 s2 e2 d3 H3 n3 s3 e3 t4 H4 n4 s4 e4 t5 H5 n5 s5 e5 t6 H6 n6 s6 e6 l7 H7 n7 s7 e7 m H8 n8 s8 e8
    have m1 := hp.ne n1
    have S18 := s2.trans (s3.trans (s4.trans (s5.trans (s6.trans (s7.trans s8)))))
    have hp1 := hp.same s1
    have m2 := hp1.ne n2
    have hp2 := hp1.same s2
    have m3 := hp2.ne n3
    have hp3 := hp2.same s3
    have m4 := hp3.ne n4
    have hp4 := hp3.same s4
    have m5 := hp4.ne n5
    have hp5 := hp4.same s5
    have m6 := hp5.ne n6
    have hp6 := hp5.same s6
    have m7 := hp6.ne n7
    have hp7 := hp6.same s7
    have m8 := hp7.ne n8
    have hp8 := hp7.same s8
    have g1 : wo p H8 t1 = _ := wo_at m1 (S18 _ _ e1)
    have g2 : wo p H8 l2 = _ := wo_at m2 ((s3.trans (s4.trans (s5.trans (s6.trans (s7.trans s8))))) _ _ e2)
    have g3 : wo p H8 d3 = _ := wo_at m3 ((s4.trans (s5.trans (s6.trans (s7.trans s8)))) _ _ e3)
    have g4 : wo p H8 t4 = _ := wo_at m4 ((s5.trans (s6.trans (s7.trans s8))) _ _ e4)
    have g5 : wo p H8 t5 = _ := wo_at m5 ((s6.trans (s7.trans s8)) _ _ e5)
    have g6 : wo p H8 t6 = _ := wo_at m6 ((s7.trans s8) _ _ e6)
    have g7 : wo p H8 l7 = _ := wo_at m7 (s8 _ _ e7)
    have hS : Same H H8 := s1.trans S18
    have hmenu : ∀ v ∈ [V.non, V.int ((0 : Nat) : Int), V.int ((1 : Nat) : Int), V.bl true, V.str (Str.ofString ""), V.str (Str.ofString "near"), V.ref t1, V.ref l2, V.ref d3, V.int (-((10 ^ 20 : Nat) : Int)), V.ref t4, V.ref l7, V.int ((10 ^ 29 : Nat) : Int)], Dat K (wo p H8) v := by
      intro v hv
      simp only [List.mem_cons, List.not_mem_nil, or_false] at hv
      rcases hv with rfl | rfl | rfl | rfl | rfl | rfl | rfl | rfl | rfl | rfl | rfl | rfl | rfl
      · exact ⟨_, .dp .non, ⟨by decide +kernel, by decide +kernel, by decide +kernel, by decide +kernel⟩⟩
      · exact ⟨_, .dp (.int _), ⟨by decide +kernel, by decide +kernel, by decide +kernel, by decide +kernel⟩⟩
      · exact ⟨_, .dp (.int _), ⟨by decide +kernel, by decide +kernel, by decide +kernel, by decide +kernel⟩⟩
      · exact ⟨_, .dp (.bl _), ⟨by decide +kernel, by decide +kernel, by decide +kernel, by decide +kernel⟩⟩
      · exact ⟨_, .dp (.str _), ⟨by decide +kernel, by decide +kernel, by decide +kernel, by decide +kernel⟩⟩
      · exact ⟨_, .dp (.str _), ⟨by decide +kernel, by decide +kernel, by decide +kernel, by decide +kernel⟩⟩
      · exact ⟨_, .tup (SqT.of g1) (.cons (.dp (.int _)) (.cons (.dp (.int _)) .nil)), ⟨by decide +kernel, by decide +kernel, by decide +kernel, by decide +kernel⟩⟩
      · exact ⟨_, .lst (SqL.of g2) (.cons (.dp (.str _)) .nil), ⟨by decide +kernel, by decide +kernel, by decide +kernel, by decide +kernel⟩⟩
      · exact ⟨_, .dct (ds := [.int 3]) g3 rfl, ⟨by decide +kernel, by decide +kernel, by decide +kernel, by decide +kernel⟩⟩
      · exact ⟨_, .dp (.int _), ⟨by decide +kernel, by decide +kernel, by decide +kernel, by decide +kernel⟩⟩
      · exact ⟨_, .tup (SqT.of g4) (.cons (.dp (.str _)) (.cons (.dp (.int _)) .nil)), ⟨by decide +kernel, by decide +kernel, by decide +kernel, by decide +kernel⟩⟩
      · exact ⟨_, .lst (SqL.of g7) (.cons (.tup (SqT.of g5) (.cons (.dp (.int _)) (.cons (.dp (.int _)) .nil))) (.cons (.tup (SqT.of g6) (.cons (.dp (.int _)) (.cons (.dp (.int _)) .nil))) .nil)), ⟨by decide +kernel, by decide +kernel, by decide +kernel, by decide +kernel⟩⟩
      · exact ⟨_, .dp (.int _), ⟨by decide +kernel, by decide +kernel, by decide +kernel, by decide +kernel⟩⟩
    clear g1 g2 g3 g4 g5 g6 g7 m1 m2 m3 m4 m5 m6 m7 e1 e2 e3 e4 e5 e6 e7 n1 n2 n3 n4 n5 n6 n7 hp1 hp2 hp3 hp4 hp5 hp6 hp7 s1 s2 s3 s4 s5 s6 s7 s8 S18
    obtain ⟨mn, hmn⟩ : ∃ mn : List V, mn = [V.non, V.int ((0 : Nat) : Int), V.int ((1 : Nat) : Int), V.bl true, V.str (Str.ofString ""), V.str (Str.ofString "near"), V.ref t1, V.ref l2, V.ref d3, V.int (-((10 ^ 20 : Nat) : Int)), V.ref t4, V.ref l7, V.int ((10 ^ 29 : Nat) : Int)] := ⟨_, rfl⟩
    have mz : mn ≠ [] := by rw [hmn]; exact fun z => by cases z
    have ml : mn.length ≤ 1000 := by rw [hmn]; exact Nat.le_of_ble_eq_true rfl
    rw [← hmn] at hmenu e8
    refine lc_picks hp8 e8 m8 mz ml fun D1 J1 a1 b1 nD1 m9 u1 p1 eD1 ha1 hb1 => ?_
    walk_at "go"
    refine lc_picks p1 (u1 _ _ m8 e8) m8 mz ml fun D2 J2 a2 b2 nD2 m10 u2 p2 eD2 ha2 hb2 => ?_
    have eD1' := u2 _ _ m9 eD1
    have W : Same (wo p H8) J2 := ((wo_bu u1).trans (wo_bu u2)).trans wo_sub
    have da1 := (hmenu _ ha1).same W
    have db1 := (hmenu _ hb1).same W
    have da2 := (hmenu _ ha2).same W
    have db2 := (hmenu _ hb2).same W
    have bu : Bu p H J2 := fun c o nc e => u2 c o nc (u1 c o nc (hS c o e))
    clear hmenu ha1 hb1 ha2 hb2 hmn e8 mz ml m8 nD1 nD2 W m9 m10 u1 u2 p1 eD1
    walk_at "go"
    rename_i E1 J3 es1 s3 f1 w1 L1 T1 J4 n4 s4 g1 E2 J5 es2 s5 f2 w2 L2' T2 J6 n6 s6 g2 R J7 n7 s7 g3
    have item : ∀ (i : Nat) (x : V), [V.ref T1, V.ref T2][i]? = some x → ∃ T E D a b es, x = .ref T ∧ J7 T = some (.tup [.ref E, .ref D]) ∧ J7 E = some (.lst es) ∧ es.length = 42 ∧ ErL cs J7 a b es ∧ J7 D = some (.lst [a, b]) ∧ Dat K J7 a ∧ Dat K J7 b := by
      intro i x hx
      have u3 := s4.trans (s5.trans (s6.trans s7))
      have u5 := s6.trans s7
      have u2 := s3.trans u3
      match i, hx with
      | 0, hx =>
        cases hx
        exact ⟨T1, E1, D1, a1, b1, es1, rfl, (s5.trans u5) _ _ g1, u3 _ _ f1, w1, L1.same u3, u2 _ _ eD1', da1.same u2, db1.same u2⟩
      | 1, hx =>
        cases hx
        exact ⟨T2, E2, D2, a2, b2, es2, rfl, s7 _ _ g2, u5 _ _ f2, w2, L2'.same u5, u2 _ _ eD2, da2.same u2, db2.same u2⟩
      | _ + 2, hx => simp at hx
    have bu7 : Bu p H J7 := fun c o nc e => s7 _ _ (s6 _ _ (s5 _ _ (s4 _ _ (s3 _ _ (bu c o nc e)))))
    have p7 : Pot J7 p := p2.same (s3.trans (s4.trans (s5.trans (s6.trans s7))))
    clear s3 f1 w1 L1 n4 s4 g1 s5 f2 w2 L2' n6 s6 g2 n7 s7 eD2 eD1' da1 db1 da2 db2 bu p2 hp8 hS
    refine forList (K := K) (xs := [V.ref T1, V.ref T2]) (fun i σ H' => (∃ v4 v5 v6 v7 v8, σ = [some (.ref p), some (.ref m), some (.ref D1), some (.ref D2), v4, v5, v6, v7, v8]) ∧ Same J7 H') ⟨⟨_, _, _, _, _, rfl⟩, Same.refl _⟩ (fun i σ H' h => h.2.seq (SqL.of g3)) ?_ ?_
    · rintro i x σ K1 hi hx ⟨⟨v4, v5, v6, v7, v8, rfl⟩, sK⟩
      obtain ⟨T, E, D, a, b, es, rfl, eT', eE, he, hL, eD, da, db⟩ := item i x hx
      have eT1 := sK _ _ eT'
      have eE1 := sK _ _ eE
      have eD1 := sK _ _ eD
      have hL1 := hL.same sK
      have da1 := da.same sK
      have db1 := db.same sK
      clear item eT' eE eD hL da db hx
      walk_at "go"
      refine forEnumL (K := K) (bb := true) (xs := es) (fun k σ H' => (∃ v4 v7 v8, σ = [some (.ref p), some (.ref m), some (.ref D1), some (.ref D2), v4, some (.ref E), some (.ref D), v7, v8]) ∧ Same K1 H') ⟨⟨_, _, _, rfl⟩, Same.refl _⟩ (fun k σ H' h => h.2.seq (SqL.of eE1)) ?_ ?_
      · rintro k x Tk σ K2 K3 hk hxk ⟨⟨v4, v7, v8, rfl⟩, sK2⟩ nTk sK3 eTk
        rw [he] at hk
        have s13 := sK2.trans sK3
        obtain ⟨e, rfl, hE0⟩ := hL1.at_ k x hxk
        have hE := hE0.same s13
        have da3 := da1.same s13
        have db3 := db1.same s13
        have eD3 := s13 _ _ eD1
        clear hE0 sK2 sK3 nTk
        walk_at "go"
        rename_i l1 K4 sK4 eL1
        obtain ⟨x1, q1, z1⟩ := da3
        obtain ⟨x2, q2, z2⟩ := db3
        refine go_reprV (tk_tps SM eL1 (Dq.same sK4 q1) z1 (Dq.same sK4 q2) z2) fun K5 sK5 => ?_
        have eD5 := (sK4.trans sK5) _ _ eD3
        walk_at "go"
        rename_i l2 K6 nl2 sK6 eL2
        have s36 := sK4.trans (sK5.trans sK6)
        refine go_reprV (tk_tps SM eL2 (Dq.same s36 q1) z1 (Dq.same s36 q2) z2) fun K7 sK7 => ?_
        have s37 := s36.trans sK7
        have hE7 := hE.same s37
        obtain ⟨C, hC, hX⟩ := hE7.ex
        have hI7 : EvIs K7 e C := by
          rcases hX with ⟨_, z⟩ | ⟨_, z⟩
          · exact z.is
          · exact ⟨.inl z⟩
        have hXC : L2.ExcC K C := (EF.at_ k C hC).2.1
        have hfl : ∀ (j : Nat) (D : Addr), cs[j]? = some D → PySem.W.kitOne K (.ref C) (.ref D) = some (decide (k = j)) := fun j D hD => eT.cc hC hD
        have hfb : ∀ (j : Nat) (D : Addr), [xCellError, xMissingError, xStateError, xLimitError][j]? = some D → PySem.W.kitOne K (.ref C) (.ref D) = some (decide (gnd k = j)) := fun j D hD => eT.cb hC hD
        have hft : ∀ (j : Nat) (t : String), gts[j]? = some t → PySem.W.kitOne K (.ref C) (.type t) = some (decide (gnd k = j)) := fun j D hD => eT.ct hC hD
        clear hX hE7 s36 sK6 sK7 eL2 nl2 sK4 sK5 eL1 q1 q2 z1 z2 hE eD5 eD3 eTk
        walk_at "go"
        rename_i l3 K8 sK8 eL3
        refine lcRange (K := K) (fun i => .bool (decide (k = i))) (by decide) (fun _ _ => rfl) (fun _ => rfl) (fun i G1 Q' hi s1 hq => ?_) (fun l4 G1 ys nL4 sG eL4 hall => ?_)
        · walk_at "go"
          exact hq _ _ (Same.refl _) (by rw [show decide (k = i) = decide (i = k) from decide_eq_decide.mpr eq_comm]; exact .bl _)
        · have ey : ys = ((List.range 42).map fun i => decide (k = i)).map V.bl := DpAll.boolsE (K := K) (H := G1) (by rw [List.map_map]; exact hall)
          rw [ey] at eL4
          rw [flL_map] at eL3
          refine ne_bools (sG _ _ eL3) eL4 ?_
          have s8 := sK8.trans sG
          have hI8 := hI7.same s8
          clear hall eL3 eL4 nL4 hI7
          have hg4 := gnd_lt k
          walk_at "go"
          rename_i l5 G2 sG2 eL5 l6 G3 sG3 eL6
          have eL5' := sG3 _ _ eL5
          rw [dueL_map] at eL5' eL6
          refine ne_bools eL5' eL6 ?_
          walk_at "go"
          exact ⟨⟨_, _, _, rfl⟩, s13.trans (s37.trans (s8.trans (sG2.trans sG3)))⟩
      · rintro σ K2 ⟨⟨v4, v7, v8, rfl⟩, sK2⟩
        exact ⟨⟨_, _, _, _, _, rfl⟩, sK.trans sK2⟩
    · rintro σ K2 ⟨⟨v4, v5, v6, v7, v8, rfl⟩, sK⟩
      clear item g3
      walk_at "go"
      refine go_ev0 fun a0 M0 s0 e0 => ?_
      walk_at "go"
      refine go_ev0 fun a1 M1 s1 e1 => ?_
      walk_at "go"
      refine go_ev0 fun a2 M2 s2 e2 => ?_
      walk_at "go"
      refine go_ev0 fun a3 M3 s3 e3 => ?_
      walk_at "go"
      rename_i R2 M4 nR sR eR
      have t3 := s3.trans sR
      have t2 := s2.trans t3
      have t1' := s1.trans t2
      have J4 := sK.trans (s0.trans t1')
      have item : ∀ (i : Nat) (x : V), [V.ref a0, V.ref a1, V.ref a2, V.ref a3][i]? = some x → ∃ e C, x = .ref e ∧ M4 e = some (exo e C none) ∧ [xCellError, xMissingError, xStateError, xLimitError][i]? = some C ∧ L2.ExcC K C := by
        intro i x hx
        match i, hx with
        | 0, hx =>
          cases hx
          exact ⟨a0, _, rfl, t1' _ _ e0, rfl, eCellError.k.is⟩
        | 1, hx =>
          cases hx
          exact ⟨a1, _, rfl, t2 _ _ e1, rfl, eMissingError.k.is⟩
        | 2, hx =>
          cases hx
          exact ⟨a2, _, rfl, t3 _ _ e2, rfl, eStateError.k.is⟩
        | 3, hx =>
          cases hx
          exact ⟨a3, _, rfl, sR _ _ e3, rfl, eLimitError.k.is⟩
        | _ + 4, hx => simp at hx
      clear e0 e1 e2 e3 s0 s1 s2 s3 t1' t2 t3 sR nR sK
      refine forEnumL (K := K) (bb := true) (xs := [V.ref a0, V.ref a1, V.ref a2, V.ref a3]) (fun k σ H' => (∃ v4 v7, σ = [some (.ref p), some (.ref m), some (.ref D1), some (.ref D2), v4, v5, v6, v7, v8]) ∧ Same M4 H') ⟨⟨_, _, rfl⟩, Same.refl _⟩ (fun k σ H' h => h.2.seq (SqL.of eR)) ?_ ?_
      · rintro i x Tk σ K3 K4 hi hx ⟨⟨v4, v7, rfl⟩, sK3⟩ nTk sK4 eTk
        obtain ⟨e, C, rfl, eE, hC, hXC⟩ := item i x hx
        have s14 := sK3.trans sK4
        have hI : EvIs K4 e C := ⟨.inl (s14 _ _ eE)⟩
        have hi4 : i < 4 := hi
        have hfl : ∀ (j : Nat) (D : Addr), cs[j]? = some D → PySem.W.kitOne K (.ref C) (.ref D) = some false := fun j D hD => eT.bc hC hD
        have hfb : ∀ (j : Nat) (D : Addr), [xCellError, xMissingError, xStateError, xLimitError][j]? = some D → PySem.W.kitOne K (.ref C) (.ref D) = some (decide (i = j)) := fun j D hD => eT.bb hC hD
        have hft : ∀ (j : Nat) (t : String), gts[j]? = some t → PySem.W.kitOne K (.ref C) (.type t) = some (decide (i = j)) := fun j D hD => eT.bt hC hD
        clear item hC eE hx hi eR nTk sK3 sK4
        walk_at "go"
        rename_i l1 G1 sG1 eL1
        refine ⟨l1, _, rfl, .inl (SqL.of eL1), rfl, rfl, ?_⟩
        rw [show (if false = true then !inV (V.bl true) (flL (fun _ => false) 42) else inV (V.bl true) (flL (fun _ => false) 42)) = false from rfl]
        have hI1 := hI.same sG1
        clear hI eL1
        walk_at "go"
        rename_i l5 G2 sG2 eL5 l6 G3 sG3 eL6
        have eL5' := sG3 _ _ eL5
        rw [dueL_map] at eL5' eL6
        refine ne_bools eL5' eL6 ?_
        walk_at "go"
        exact ⟨⟨_, _, rfl⟩, s14.trans (sG1.trans (sG2.trans sG3))⟩
      · rintro σ K3 ⟨⟨v4, v7, rfl⟩, sK3⟩
        have z := J4.trans sK3
        walk_at "go"
        exact q _ (p7.same z) fun c o nc e => z _ _ (bu7 c o nc e)
end
end T
set_option Elab.async false
set_option maxRecDepth 100000
set_option maxHeartbeats 4000000
namespace T
open PySem L2 Mv
abbrev s_law : Stmt := top 60
theorem sc_law : FnScope ["_law_script", "_law_k"] ["_law_script"] (defScope s_law) := ⟨rfl, rfl, rfl, by decide +kernel, rfl, by decide +kernel, by decide +kernel⟩
section
variable {P : Program} {w : World} {K : PySem.W.Frag} {mg : Str → Option Value} {base : Heap} {C AX : Addr}
def sp_law (K : PySem.W.Frag) : Sp := fun vs H Q _ => ∃ (a : Addr) (ns : List Int), vs = [.ref a] ∧ SqL K H a (ns.map V.int) ∧ ns.length ≤ 63 ∧ ∀ H', Q (.bl true) H'
theorem c_law {K : PySem.W.Frag} {a : Addr} {ns : List Int} {H : Hp} {Q : VK} {E : XK} (h0 : SqL K H a (ns.map V.int)) (h1 : ns.length ≤ 63) (q : ∀ H', Q (.bl true) H') : sp_law K [.ref a] H Q E := ⟨_, _, rfl, h0, h1, q⟩
local macro_rules | `(tactic| tb_rel) => `(tactic| repeat (first
  | with_reducible assumption
  | with_reducible exact Dp.int _
  | with_reducible exact Dp.str _
  | with_reducible exact Dp.bl _
  | with_reducible exact Dp.non
  | (with_reducible apply SqT.of; with_reducible assumption)
  | (with_reducible apply SqL.of; with_reducible assumption)
  | (with_reducible apply up_dp; with_reducible assumption)
  | (with_reducible apply up_sqt; with_reducible assumption)
  | (with_reducible apply up_sql; with_reducible assumption)
  | (with_reducible apply up_get; with_reducible assumption)
  | (with_reducible apply up_pot; with_reducible assumption)
  | with_reducible exact Same.refl _
  | with_reducible exact Bu.refl _ _
  | (with_reducible apply up_same; with_reducible assumption)
  | (with_reducible apply up_bu; with_reducible assumption)
  | (with_reducible apply bu_bu; with_reducible assumption)
  | (with_reducible apply free_of; with_reducible assumption)
  | (with_reducible apply mi_fr; with_reducible assumption; (focus (tb_rel; done)))
  | (with_reducible apply mi_dp; with_reducible assumption)
  | (with_reducible apply mi_sqt; with_reducible assumption)
  | (with_reducible apply mi_sql; with_reducible assumption)
  | (with_reducible apply mi_gett; with_reducible assumption)
  | (with_reducible apply mi_getl; with_reducible assumption)
  | (with_reducible apply mi_pot; with_reducible assumption)
  | (with_reducible apply mi_refl; with_reducible assumption; (focus (with_unfolding_all exact rfl)))
  | (with_reducible apply up_mi; with_reducible assumption)
  | (with_reducible apply mi_mi; with_reducible assumption)
  | (with_reducible apply mi_bu; with_reducible assumption)
  | (with_reducible apply bu_gett; with_reducible assumption; (focus (tb_rel; done)))
  | (with_reducible apply bu_geti; with_reducible assumption; (focus (tb_rel; done)))
  | (with_reducible apply bu_get; with_reducible assumption; (focus (tlg_ne; done)))
  | (with_reducible apply bu_sqt; with_reducible assumption; (focus (tb_rel; done)))
  | (with_reducible apply bu_sql; with_reducible assumption; (focus (tlg_ne; done)))
  | (with_reducible apply bu_dp; with_reducible assumption; (focus (tb_rel; done)); (focus (lcg_src; done)))
  | fail "up"))
local macro_rules | `(tactic| tlg_ne) => `(tactic| first
  | with_reducible assumption
  | (with_reducible apply pot_ne; with_reducible assumption; (focus (tb_rel; done)))
  | fail "ne")
local macro_rules | `(tactic| lcg_src) => `(tactic| first
  | with_reducible assumption
  | with_unfolding_all exact rfl
  | with_unfolding_all decide
  | with_unfolding_all exact Nat.ne_of_beq_eq_false rfl
  | (apply_assumption; done)
  | omega
  | (simp; done)
  | (simp; omega)
  | fail "sd")
local macro_rules | `(tactic| lcg_sub) => `(tactic| first
  | (unfold sizeLine; omega)
  | (simp only [List.length_cons, List.length_nil, List.length_append, List.length_map, List.length_replicate, List.length_take, List.length_drop]; unfold sizeLine; omega)
  | (simp; unfold sizeLine; omega)
  | fail "sz")
local macro_rules | `(tactic| nest_cls) => `(tactic| first
  | (tb_rel; done)
  | (with_reducible apply nmI; (focus (tb_rel; done)))
  | (with_reducible apply d_tup; (focus (tb_rel; done)); (focus (lsm_bools; done)))
  | (with_reducible apply d_lst; (focus (tb_rel; done)); (focus (lsm_bools; done)))
  | fail "dp")
local macro_rules | `(tactic| lsm_bools) => `(tactic| repeat (first
  | with_reducible exact DpAll.nil
  | with_reducible assumption
  | (with_reducible apply DpAll.cons; (focus (nest_cls; done)))
  | fail "dpa"))
local macro_rules | `(tactic| none_booked) => `(tactic| first | with_unfolding_all exact rfl | (with_reducible apply atI_nat; with_reducible assumption) | fail "ix")
local macro_rules | `(tactic| walk_at "go") => `(tactic| repeat (first
  | (focus (with_reducible refine go_var (v := ?_) ?_ ?_; rotate_left; (focus (with_unfolding_all exact rfl))))
  | with_reducible refine go_seq ?_
  | with_reducible refine go_cN ?_
  | with_reducible refine go_c ?_
  | with_reducible refine go_op ?_
  | with_reducible refine go_nil ?_
  | with_reducible refine go_cons ?_
  | with_reducible refine go_cb ?_
  | with_reducible refine go_call0 ?_
  | with_reducible refine go_asg ?_
  | (focus (with_reducible refine go_gname (σ' := ?_) ?_ ?_; rotate_left; (focus (simp only [List.set_cons_succ, List.set_cons_zero]; exact rfl))))
  | with_reducible refine go_par ?_
  | (focus (with_reducible refine go_par2 (σ' := ?_) ?_ ?_; rotate_left; (focus (simp only [List.set_cons_succ, List.set_cons_zero]; exact rfl))))
  | with_reducible refine go_ifs ?_
  | with_reducible refine go_test ?_
  | with_reducible refine go_tb ?_
  | with_reducible refine go_asb ?_
  | with_reducible refine go_asi ?_
  | with_reducible refine go_ret ?_
  | with_reducible refine go_retn ?_
  | with_reducible refine go_drop ?_
  | with_reducible refine go_next ?_
  | with_reducible refine go_and ?_
  | with_reducible refine go_or ?_
  | with_reducible refine go_not ?_
  | with_reducible refine go_andv ?_
  | with_reducible refine go_orv ?_
  | with_reducible refine go_notv ?_
  | with_reducible refine go_ife ?_
  | with_reducible refine go_chain ?_
  | with_reducible refine go_if1 ?_
  | with_reducible refine go_if0 ?_
  | with_reducible refine go_ifn1 ?_
  | with_reducible refine go_ifn0 ?_
  | (with_reducible apply go_ift; (focus (first | with_reducible rfl | with_reducible assumption | omega)))
  | (with_reducible apply go_ifnt; (focus (first | with_reducible rfl | with_reducible assumption | omega)))
  | (with_reducible apply go_iff; (focus (first | with_reducible assumption | omega)))
  | (with_reducible apply go_ifnf; (focus (first | with_reducible assumption | omega)))
  | with_reducible refine go_un ?_
  | with_reducible refine go_tup ?_
  | with_reducible refine go_lst ?_
  | (with_reducible apply go_newt; (focus (lcg_sub; done)); intros)
  | (with_reducible apply go_newl; (focus (lcg_sub; done)); intros)
  | with_reducible refine go_meth ?_
  | with_reducible refine go_for ?_
  | with_reducible refine go_lc ?_
  | with_reducible refine go_irng1 ?_
  | with_reducible refine go_irng2 ?_
  | with_reducible refine go_ilist ?_
  | with_reducible refine go_itup ?_
  | with_reducible refine go_izip ?_
  | with_reducible refine go_ienum ?_
  | (with_reducible apply go_rg1; (focus (lcg_src; done)))
  | (with_reducible apply go_rg2; (focus (lcg_src; done)); (focus (lcg_src; done)))
  | (with_reducible apply go_lsr; (focus (tb_rel; done)))
  | (with_reducible apply go_tpr; (focus (tb_rel; done)))
  | (with_reducible apply go_zpr; (focus (tb_rel; done)); (focus (tb_rel; done)))
  | (with_reducible apply go_zprT; (focus (tb_rel; done)); (focus (tb_rel; done)))
  | (with_reducible apply go_enrL; (focus (tb_rel; done)))
  | (with_reducible apply go_enrT; (focus (tb_rel; done)))
  | with_reducible refine go_prop ?_
  | with_reducible refine go_knr0 ?_
  | (with_reducible apply go_knr; (focus (with_unfolding_all exact rfl; done)); (focus (simp only [kSw2, kRev3, kId, List.nil_append, List.cons_append]; exact rfl)))
  | with_reducible refine go_mkn ?_
  | (with_reducible apply go_mkr; (focus (tb_rel; done)); (focus (with_unfolding_all exact rfl; done)))
  | with_reducible refine go_fld ?_
  | (with_reducible apply go_flr; (focus (tb_rel; done)); (focus (with_reducible assumption; done)); (focus (with_reducible assumption; done)); (focus (with_unfolding_all exact rfl; done)))
  | (with_reducible apply go_prr; (focus (tb_rel; done)))
  | (with_reducible apply go_mer; (focus (tb_rel; done)); (focus (with_unfolding_all exact rfl; done)))
  | with_reducible refine go_sfld ?_
  | (with_reducible apply go_sfr; (focus (tb_rel; done)); (focus (with_reducible assumption; done)); (focus (with_reducible assumption; done)); (focus (with_unfolding_all exact Nat.le_of_ble_eq_true rfl; done)); (focus (with_unfolding_all exact rfl; done)); intros)
  | with_reducible refine go_revt ?_
  | with_reducible refine go_make0 ?_
  | (focus (with_reducible refine go_aug (x := ?_) ?_ ?_; rotate_left; (focus (with_unfolding_all exact rfl))))
  | (focus (with_reducible refine go_augk (σ' := ?_) ?_ ?_; rotate_left; (focus (simp only [List.set_cons_succ, List.set_cons_zero]; exact rfl))))
  | with_reducible refine go_min2 ?_
  | with_reducible refine go_int1 ?_
  | with_reducible refine go_max2 ?_
  | with_reducible refine go_intB ?_
  | with_reducible refine go_absN ?_
  | with_reducible refine go_isN ?_
  | with_reducible refine go_notN ?_
  | (with_reducible apply go_rvt; (focus (tb_rel; done)); (focus (simp only [List.reverse_cons, List.reverse_nil, List.nil_append, List.cons_append]; exact rfl)); intros)
  | (with_reducible apply go_reprNm; (focus (tb_rel; done)); (focus (with_reducible assumption; done)))
  | (with_reducible apply go_reprPr; (focus (nest_cls; done)); (focus (lcg_src; done)); (focus (lcg_src; done)))
  | with_reducible refine go_sl ?_
  | with_reducible refine go_part ?_
  | with_reducible refine go_nopart ?_
  | (with_reducible apply go_gtup; (focus (tb_rel; done)); (focus (with_unfolding_all exact rfl; done)))
  | (with_reducible apply go_gunl; (focus (tb_rel; done)); (focus (with_unfolding_all exact rfl; done)))
  | with_reducible refine go_gcons ?_
  | with_reducible refine go_gnil ?_
  | with_reducible refine go_addN ?_
  | with_reducible refine go_ltN ?_
  | with_reducible refine go_leN ?_
  | with_reducible refine go_gtN ?_
  | with_reducible refine go_geN ?_
  | (with_reducible apply go_subN; (focus (omega; done)))
  | with_reducible refine go_rI0 ?_
  | (with_reducible apply go_mulN; (focus (omega; done)))
  | (with_reducible apply go_modN; (focus (omega; done)))
  | (with_reducible apply go_divN; (focus (omega; done)))
  | (with_reducible apply go_powN; (focus (with_unfolding_all decide; done)))
  | with_reducible refine go_rU ?_
  | with_reducible refine go_eqN ?_
  | with_reducible refine go_neN ?_
  | with_reducible refine go_isB ?_
  | with_reducible refine go_notB ?_
  | with_reducible refine go_eqS ?_
  | with_reducible refine go_neS ?_
  | with_reducible refine go_eqB ?_
  | with_reducible refine go_eqI ?_
  | with_reducible refine go_neI ?_
  | (with_reducible apply go_ixt; (focus (tb_rel; done)); (focus (none_booked; done)))
  | (with_reducible apply go_ixl; (focus (tb_rel; done)); (focus (none_booked; done)))
  | (with_reducible apply go_lent; (focus (tb_rel; done)))
  | (with_reducible apply go_lenNm; (focus (tb_rel; done)))
  | (with_reducible apply go_isiNm; (focus (tb_rel; done)))
  | (with_reducible apply go_lenl; (focus (tb_rel; done)))
  | (with_reducible apply go_catA; (focus (tb_rel; done)); (focus (tb_rel; done)); (focus (lcg_sub; done)); intros)
  | (with_reducible apply go_slaT; (focus (tb_rel; done)); intros)
  | (with_reducible apply go_slaD; (focus (tb_rel; done)); intros)
  | (with_reducible apply go_rep; (focus (tb_rel; done)); (focus (lcg_src; done)); intros)
  | (with_reducible apply go_tupofl; (focus (tb_rel; done)); intros)
  | (with_reducible apply go_sllT; (focus (tb_rel; done)); intros)
  | (with_reducible apply go_sllD; (focus (tb_rel; done)); intros)
  | (with_reducible apply go_cat; (focus (tb_rel; done)); (focus (tb_rel; done)); (focus (lcg_sub; done)); intros)
  | (with_reducible apply c_law; (focus (tb_rel; done)); (focus (lcg_src; done)); intros)
  | (with_reducible apply c_right; (focus (tb_rel; done)); intros)
  | fail "go"))
theorem ok_law {f : Addr} {fd : FuncData} (F : Df K "law" "law" s_law [] f fd) (B : Blt mg) (cPot : Ca P w K mg base 1 "_law_pot" (sp_pot K) []) (cRight : Cg P w K mg base 8 "_law_right" ["_law_pot_here"] sp_right []) :
    FnG P w K mg base 9 f fd ["_law_script"] (sp_law K) := by
  refine dfG F sc_law (fun vs H Q E h => ?_) (fun cdv A outer s H vs Q E hr ga h => ?_)
  · obtain ⟨a, ns, rfl, _⟩ := h
    rfl
  · obtain ⟨a, ns, rfl, hS, hlen, q⟩ := h
    have hl : (ns.map V.int).length ≤ 63 := by rw [List.length_map]; exact hlen
    refine ⟨_, (pss_one (ps_ret (pe_callB (cr_all' rfl) (by rfl) B.all bt_all (pa_cons (pe_lc (own := [("_law_k", 1)]) (by rfl) sc_law.nd (pi_range1 (by rfl) B.range (pa_cons (pe_callB (call_max2' rfl) (by rfl) B.max bt_max (pa_cons pe_int (pa_cons (pe_callB (call_min2' rfl) (by rfl) B.min bt_min (pa_cons (pe_callB call_len_seq' (by rfl) B.len bt_len (pa_cons (pv 0) pa_nil)) (pa_cons pe_int pa_nil))) pa_nil))) pa_nil)) (blkOk_by (own := [("_law_k", 1)]) (N := ["_law_script", "_law_k"]) (sc := defScope s_law) (by decide +kernel)) (fun _ _ _ _ _ => (pg_name (i := 1) sc_law.nd rfl (Or.inl rfl))) (fun _ _ _ _ _ => pts_nil) (fun _ _ _ _ _ => (pe_g cRight hr ga (by decide) (by rfl) (pa_cons (pe_ca cPot hr (by decide) (by rfl) (pa_cons (pv 0) (pa_cons (pv 1) pa_nil))) pa_nil)))) pa_nil)))), ?_⟩
    refine go_start (σ := [some _, none]) rfl ?_
    walk_at "go"
    refine lcRange (K := K) (fun _ => .bool true) (by omega) (fun _ _ => rfl) (fun _ => rfl) (fun i H1 Q' hi s1 hq => ?_) (fun D H1 ys nD s1 eD hall => ?_)
    · walk_at "go"
      refine ⟨a, ns, i, by simp, s1.seq hS, by omega, fun p hp x y hx hy hy2 => ?_⟩
      walk_at "go"
      refine ⟨p, rfl, ⟨x, y, upd_same, hx, hy, hy2⟩, fun H2 hp2 b2 => ?_⟩
      exact hq _ _ (fun c o ec => b2 c o (ne_of_none ec hp) (same_new hp _ _ ec)) (.bl true)
    · have e2 := trues hall
      subst e2
      walk_at "go"
      refine go_all (SqL.of eD) ?_
      rw [trues_all]
      exact q _
end
end T
set_option Elab.async false
set_option maxRecDepth 100000
set_option maxHeartbeats 4000000
namespace T
open PySem L2 Mv
open He (ga ma)
theorem all_mk {P : Program} {w : World} {K : PySem.W.Frag} {h : Heap} {mg : Str → Option Value} {fa : Addr} (X : K.In h) (Gn : h.Ns mainGlobals mg) (hfa : mg "law" = some (.ref fa))
    {xInvalidNumber : Addr} {xInvalidPhase : Addr} {xInvalidSign : Addr} {xInvalidPair : Addr} {xInvalidLength : Addr} {xInvalidClosed : Addr} {xInvalidAxis : Addr} {xInvalidName : Addr} {xInvalidPlace : Addr} {xInvalidKind : Addr} {xInvalidDirection : Addr} {xInvalidMove : Addr} {xInvalidEdges : Addr} {xInvalidBegins : Addr} {xInvalidEntry : Addr} {xInvalidReach : Addr} {xInvalidDistance : Addr} {xInvalidLooks : Addr} {xInvalidPlaces : Addr} {xInvalidWord : Addr} {xInvalidTarget : Addr} {xInvalidState : Addr} {xInvalidRule : Addr} {xInvalidTable : Addr} {xInvalidMap : Addr} {xInvalidPlan : Addr} {xInvalidGauge : Addr} {xInvalidClaim : Addr} {xInvalidCommand : Addr} {xInvalidRounds : Addr} {xInvalidStates : Addr} {xInvalidMoves : Addr} {xInvalidText : Addr} {xUnknownWord : Addr} {xCommandFailed : Addr} {xNotBalanced : Addr} {xOtherPlan : Addr} {xOtherMap : Addr} {xNoNeighbour : Addr} {xTooMany : Addr} {xDividedByZero : Addr} {xNothingToUndo : Addr} {xCellError : Addr} {xMissingError : Addr} {xStateError : Addr} {xLimitError : Addr} {f_law : Addr} {fd_law : FuncData} {f_pot : Addr} {fd_pot : FuncData} {f_right : Addr} {fd_right : FuncData} {f_pick : Addr} {fd_pick : FuncData} {f_draw : Addr} {fd_draw : FuncData} {f_all : Addr} {fd_all : FuncData} {f_eInvalidNumber : Addr} {fd_eInvalidNumber : FuncData} {f_eInvalidPhase : Addr} {fd_eInvalidPhase : FuncData} {f_eInvalidSign : Addr} {fd_eInvalidSign : FuncData} {f_eInvalidPair : Addr} {fd_eInvalidPair : FuncData} {f_eInvalidLength : Addr} {fd_eInvalidLength : FuncData} {f_eInvalidClosed : Addr} {fd_eInvalidClosed : FuncData} {f_eInvalidAxis : Addr} {fd_eInvalidAxis : FuncData} {f_eInvalidName : Addr} {fd_eInvalidName : FuncData} {f_eInvalidPlace : Addr} {fd_eInvalidPlace : FuncData} {f_eInvalidKind : Addr} {fd_eInvalidKind : FuncData} {f_eInvalidDirection : Addr} {fd_eInvalidDirection : FuncData} {f_eInvalidMove : Addr} {fd_eInvalidMove : FuncData} {f_eInvalidEdges : Addr} {fd_eInvalidEdges : FuncData} {f_eInvalidBegins : Addr} {fd_eInvalidBegins : FuncData} {f_eInvalidEntry : Addr} {fd_eInvalidEntry : FuncData} {f_eInvalidReach : Addr} {fd_eInvalidReach : FuncData} {f_eInvalidDistance : Addr} {fd_eInvalidDistance : FuncData} {f_eInvalidLooks : Addr} {fd_eInvalidLooks : FuncData} {f_eInvalidPlaces : Addr} {fd_eInvalidPlaces : FuncData} {f_eInvalidWord : Addr} {fd_eInvalidWord : FuncData} {f_eInvalidTarget : Addr} {fd_eInvalidTarget : FuncData} {f_eInvalidState : Addr} {fd_eInvalidState : FuncData} {f_eInvalidRule : Addr} {fd_eInvalidRule : FuncData} {f_eInvalidTable : Addr} {fd_eInvalidTable : FuncData} {f_eInvalidMap : Addr} {fd_eInvalidMap : FuncData} {f_eInvalidPlan : Addr} {fd_eInvalidPlan : FuncData} {f_eInvalidGauge : Addr} {fd_eInvalidGauge : FuncData} {f_eInvalidClaim : Addr} {fd_eInvalidClaim : FuncData} {f_eInvalidCommand : Addr} {fd_eInvalidCommand : FuncData} {f_eInvalidRounds : Addr} {fd_eInvalidRounds : FuncData} {f_eInvalidStates : Addr} {fd_eInvalidStates : FuncData} {f_eInvalidMoves : Addr} {fd_eInvalidMoves : FuncData} {f_eInvalidText : Addr} {fd_eInvalidText : FuncData} {f_eUnknownWord : Addr} {fd_eUnknownWord : FuncData} {f_eCommandFailed : Addr} {fd_eCommandFailed : FuncData} {f_eNotBalanced : Addr} {fd_eNotBalanced : FuncData} {f_eOtherPlan : Addr} {fd_eOtherPlan : FuncData} {f_eOtherMap : Addr} {fd_eOtherMap : FuncData} {f_eNoNeighbour : Addr} {fd_eNoNeighbour : FuncData} {f_eTooMany : Addr} {fd_eTooMany : FuncData} {f_named : Addr} {fd_named : FuncData} {f_kept : Addr} {fd_kept : FuncData} {f_flags : Addr} {fd_flags : FuncData} {f_grounds : Addr} {fd_grounds : FuncData} {f_ground : Addr} {fd_ground : FuncData} {f_width : Addr} {fd_width : FuncData} {f_dueg : Addr} {fd_dueg : FuncData}
    (hn : PySem.W.specialIn K (.builtin "object.__class__") "__get__" = some (some (.builtin "getset_descriptor.__get__")))
    (htk : PySem.W.takesIn K (.builtin "object.__class__") = some true)
    (z_len : PySem.W.nsIn K mainGlobals "len" = some none)
    (z_abs : PySem.W.nsIn K mainGlobals "abs" = some none)
    (z_max : PySem.W.nsIn K mainGlobals "max" = some none)
    (z_min : PySem.W.nsIn K mainGlobals "min" = some none)
    (z_int : PySem.W.nsIn K mainGlobals "int" = some none)
    (z_bool : PySem.W.nsIn K mainGlobals "bool" = some none)
    (z_str : PySem.W.nsIn K mainGlobals "str" = some none)
    (z_repr : PySem.W.nsIn K mainGlobals "repr" = some none)
    (z_all : PySem.W.nsIn K mainGlobals "all" = some none)
    (z_any : PySem.W.nsIn K mainGlobals "any" = some none)
    (z_range : PySem.W.nsIn K mainGlobals "range" = some none)
    (z_divmod : PySem.W.nsIn K mainGlobals "divmod" = some none)
    (z_isinstance : PySem.W.nsIn K mainGlobals "isinstance" = some none)
    (z_list : PySem.W.nsIn K mainGlobals "list" = some none)
    (z_tuple : PySem.W.nsIn K mainGlobals "tuple" = some none)
    (z_dict : PySem.W.nsIn K mainGlobals "dict" = some none)
    (z_enumerate : PySem.W.nsIn K mainGlobals "enumerate" = some none)
    (z_zip : PySem.W.nsIn K mainGlobals "zip" = some none)
    (z_sorted : PySem.W.nsIn K mainGlobals "sorted" = some none)
    (z_sum : PySem.W.nsIn K mainGlobals "sum" = some none)
    (z_type : PySem.W.nsIn K mainGlobals "type" = some none)
    (SM : SmG K)
    (g_xInvalidNumber : PySem.W.nsIn K mainGlobals "InvalidNumber" = some (some (.ref xInvalidNumber)))
    (o_xInvalidNumber : Oex K xInvalidNumber ∧ L2.XfC K xInvalidNumber ∧ L2.ExcC K xInvalidNumber)
    (n_xInvalidNumber_value : PySem.W.findIn K (.ref xInvalidNumber) "value" = some none)
    (g_xInvalidPhase : PySem.W.nsIn K mainGlobals "InvalidPhase" = some (some (.ref xInvalidPhase)))
    (o_xInvalidPhase : Oex K xInvalidPhase ∧ L2.XfC K xInvalidPhase ∧ L2.ExcC K xInvalidPhase)
    (n_xInvalidPhase_value : PySem.W.findIn K (.ref xInvalidPhase) "value" = some none)
    (g_xInvalidSign : PySem.W.nsIn K mainGlobals "InvalidSign" = some (some (.ref xInvalidSign)))
    (o_xInvalidSign : Oex K xInvalidSign ∧ L2.XfC K xInvalidSign ∧ L2.ExcC K xInvalidSign)
    (n_xInvalidSign_value : PySem.W.findIn K (.ref xInvalidSign) "value" = some none)
    (g_xInvalidPair : PySem.W.nsIn K mainGlobals "InvalidPair" = some (some (.ref xInvalidPair)))
    (o_xInvalidPair : Oex K xInvalidPair ∧ L2.XfC K xInvalidPair ∧ L2.ExcC K xInvalidPair)
    (n_xInvalidPair_value : PySem.W.findIn K (.ref xInvalidPair) "value" = some none)
    (g_xInvalidLength : PySem.W.nsIn K mainGlobals "InvalidLength" = some (some (.ref xInvalidLength)))
    (o_xInvalidLength : Oex K xInvalidLength ∧ L2.XfC K xInvalidLength ∧ L2.ExcC K xInvalidLength)
    (n_xInvalidLength_value : PySem.W.findIn K (.ref xInvalidLength) "value" = some none)
    (g_xInvalidClosed : PySem.W.nsIn K mainGlobals "InvalidClosed" = some (some (.ref xInvalidClosed)))
    (o_xInvalidClosed : Oex K xInvalidClosed ∧ L2.XfC K xInvalidClosed ∧ L2.ExcC K xInvalidClosed)
    (n_xInvalidClosed_value : PySem.W.findIn K (.ref xInvalidClosed) "value" = some none)
    (g_xInvalidAxis : PySem.W.nsIn K mainGlobals "InvalidAxis" = some (some (.ref xInvalidAxis)))
    (o_xInvalidAxis : Oex K xInvalidAxis ∧ L2.XfC K xInvalidAxis ∧ L2.ExcC K xInvalidAxis)
    (n_xInvalidAxis_value : PySem.W.findIn K (.ref xInvalidAxis) "value" = some none)
    (g_xInvalidName : PySem.W.nsIn K mainGlobals "InvalidName" = some (some (.ref xInvalidName)))
    (o_xInvalidName : Oex K xInvalidName ∧ L2.XfC K xInvalidName ∧ L2.ExcC K xInvalidName)
    (n_xInvalidName_value : PySem.W.findIn K (.ref xInvalidName) "value" = some none)
    (g_xInvalidPlace : PySem.W.nsIn K mainGlobals "InvalidPlace" = some (some (.ref xInvalidPlace)))
    (o_xInvalidPlace : Oex K xInvalidPlace ∧ L2.XfC K xInvalidPlace ∧ L2.ExcC K xInvalidPlace)
    (n_xInvalidPlace_value : PySem.W.findIn K (.ref xInvalidPlace) "value" = some none)
    (g_xInvalidKind : PySem.W.nsIn K mainGlobals "InvalidKind" = some (some (.ref xInvalidKind)))
    (o_xInvalidKind : Oex K xInvalidKind ∧ L2.XfC K xInvalidKind ∧ L2.ExcC K xInvalidKind)
    (n_xInvalidKind_value : PySem.W.findIn K (.ref xInvalidKind) "value" = some none)
    (g_xInvalidDirection : PySem.W.nsIn K mainGlobals "InvalidDirection" = some (some (.ref xInvalidDirection)))
    (o_xInvalidDirection : Oex K xInvalidDirection ∧ L2.XfC K xInvalidDirection ∧ L2.ExcC K xInvalidDirection)
    (n_xInvalidDirection_value : PySem.W.findIn K (.ref xInvalidDirection) "value" = some none)
    (g_xInvalidMove : PySem.W.nsIn K mainGlobals "InvalidMove" = some (some (.ref xInvalidMove)))
    (o_xInvalidMove : Oex K xInvalidMove ∧ L2.XfC K xInvalidMove ∧ L2.ExcC K xInvalidMove)
    (n_xInvalidMove_value : PySem.W.findIn K (.ref xInvalidMove) "value" = some none)
    (g_xInvalidEdges : PySem.W.nsIn K mainGlobals "InvalidEdges" = some (some (.ref xInvalidEdges)))
    (o_xInvalidEdges : Oex K xInvalidEdges ∧ L2.XfC K xInvalidEdges ∧ L2.ExcC K xInvalidEdges)
    (n_xInvalidEdges_value : PySem.W.findIn K (.ref xInvalidEdges) "value" = some none)
    (g_xInvalidBegins : PySem.W.nsIn K mainGlobals "InvalidBegins" = some (some (.ref xInvalidBegins)))
    (o_xInvalidBegins : Oex K xInvalidBegins ∧ L2.XfC K xInvalidBegins ∧ L2.ExcC K xInvalidBegins)
    (n_xInvalidBegins_value : PySem.W.findIn K (.ref xInvalidBegins) "value" = some none)
    (g_xInvalidEntry : PySem.W.nsIn K mainGlobals "InvalidEntry" = some (some (.ref xInvalidEntry)))
    (o_xInvalidEntry : Oex K xInvalidEntry ∧ L2.XfC K xInvalidEntry ∧ L2.ExcC K xInvalidEntry)
    (n_xInvalidEntry_value : PySem.W.findIn K (.ref xInvalidEntry) "value" = some none)
    (g_xInvalidReach : PySem.W.nsIn K mainGlobals "InvalidReach" = some (some (.ref xInvalidReach)))
    (o_xInvalidReach : Oex K xInvalidReach ∧ L2.XfC K xInvalidReach ∧ L2.ExcC K xInvalidReach)
    (n_xInvalidReach_value : PySem.W.findIn K (.ref xInvalidReach) "value" = some none)
    (g_xInvalidDistance : PySem.W.nsIn K mainGlobals "InvalidDistance" = some (some (.ref xInvalidDistance)))
    (o_xInvalidDistance : Oex K xInvalidDistance ∧ L2.XfC K xInvalidDistance ∧ L2.ExcC K xInvalidDistance)
    (n_xInvalidDistance_value : PySem.W.findIn K (.ref xInvalidDistance) "value" = some none)
    (g_xInvalidLooks : PySem.W.nsIn K mainGlobals "InvalidLooks" = some (some (.ref xInvalidLooks)))
    (o_xInvalidLooks : Oex K xInvalidLooks ∧ L2.XfC K xInvalidLooks ∧ L2.ExcC K xInvalidLooks)
    (n_xInvalidLooks_value : PySem.W.findIn K (.ref xInvalidLooks) "value" = some none)
    (g_xInvalidPlaces : PySem.W.nsIn K mainGlobals "InvalidPlaces" = some (some (.ref xInvalidPlaces)))
    (o_xInvalidPlaces : Oex K xInvalidPlaces ∧ L2.XfC K xInvalidPlaces ∧ L2.ExcC K xInvalidPlaces)
    (n_xInvalidPlaces_value : PySem.W.findIn K (.ref xInvalidPlaces) "value" = some none)
    (g_xInvalidWord : PySem.W.nsIn K mainGlobals "InvalidWord" = some (some (.ref xInvalidWord)))
    (o_xInvalidWord : Oex K xInvalidWord ∧ L2.XfC K xInvalidWord ∧ L2.ExcC K xInvalidWord)
    (n_xInvalidWord_value : PySem.W.findIn K (.ref xInvalidWord) "value" = some none)
    (g_xInvalidTarget : PySem.W.nsIn K mainGlobals "InvalidTarget" = some (some (.ref xInvalidTarget)))
    (o_xInvalidTarget : Oex K xInvalidTarget ∧ L2.XfC K xInvalidTarget ∧ L2.ExcC K xInvalidTarget)
    (n_xInvalidTarget_value : PySem.W.findIn K (.ref xInvalidTarget) "value" = some none)
    (g_xInvalidState : PySem.W.nsIn K mainGlobals "InvalidState" = some (some (.ref xInvalidState)))
    (o_xInvalidState : Oex K xInvalidState ∧ L2.XfC K xInvalidState ∧ L2.ExcC K xInvalidState)
    (n_xInvalidState_value : PySem.W.findIn K (.ref xInvalidState) "value" = some none)
    (g_xInvalidRule : PySem.W.nsIn K mainGlobals "InvalidRule" = some (some (.ref xInvalidRule)))
    (o_xInvalidRule : Oex K xInvalidRule ∧ L2.XfC K xInvalidRule ∧ L2.ExcC K xInvalidRule)
    (n_xInvalidRule_value : PySem.W.findIn K (.ref xInvalidRule) "value" = some none)
    (g_xInvalidTable : PySem.W.nsIn K mainGlobals "InvalidTable" = some (some (.ref xInvalidTable)))
    (o_xInvalidTable : Oex K xInvalidTable ∧ L2.XfC K xInvalidTable ∧ L2.ExcC K xInvalidTable)
    (n_xInvalidTable_value : PySem.W.findIn K (.ref xInvalidTable) "value" = some none)
    (g_xInvalidMap : PySem.W.nsIn K mainGlobals "InvalidMap" = some (some (.ref xInvalidMap)))
    (o_xInvalidMap : Oex K xInvalidMap ∧ L2.XfC K xInvalidMap ∧ L2.ExcC K xInvalidMap)
    (n_xInvalidMap_value : PySem.W.findIn K (.ref xInvalidMap) "value" = some none)
    (g_xInvalidPlan : PySem.W.nsIn K mainGlobals "InvalidPlan" = some (some (.ref xInvalidPlan)))
    (o_xInvalidPlan : Oex K xInvalidPlan ∧ L2.XfC K xInvalidPlan ∧ L2.ExcC K xInvalidPlan)
    (n_xInvalidPlan_value : PySem.W.findIn K (.ref xInvalidPlan) "value" = some none)
    (g_xInvalidGauge : PySem.W.nsIn K mainGlobals "InvalidGauge" = some (some (.ref xInvalidGauge)))
    (o_xInvalidGauge : Oex K xInvalidGauge ∧ L2.XfC K xInvalidGauge ∧ L2.ExcC K xInvalidGauge)
    (n_xInvalidGauge_value : PySem.W.findIn K (.ref xInvalidGauge) "value" = some none)
    (g_xInvalidClaim : PySem.W.nsIn K mainGlobals "InvalidClaim" = some (some (.ref xInvalidClaim)))
    (o_xInvalidClaim : Oex K xInvalidClaim ∧ L2.XfC K xInvalidClaim ∧ L2.ExcC K xInvalidClaim)
    (n_xInvalidClaim_value : PySem.W.findIn K (.ref xInvalidClaim) "value" = some none)
    (g_xInvalidCommand : PySem.W.nsIn K mainGlobals "InvalidCommand" = some (some (.ref xInvalidCommand)))
    (o_xInvalidCommand : Oex K xInvalidCommand ∧ L2.XfC K xInvalidCommand ∧ L2.ExcC K xInvalidCommand)
    (n_xInvalidCommand_value : PySem.W.findIn K (.ref xInvalidCommand) "value" = some none)
    (g_xInvalidRounds : PySem.W.nsIn K mainGlobals "InvalidRounds" = some (some (.ref xInvalidRounds)))
    (o_xInvalidRounds : Oex K xInvalidRounds ∧ L2.XfC K xInvalidRounds ∧ L2.ExcC K xInvalidRounds)
    (n_xInvalidRounds_position : PySem.W.findIn K (.ref xInvalidRounds) "position" = some none)
    (g_xInvalidStates : PySem.W.nsIn K mainGlobals "InvalidStates" = some (some (.ref xInvalidStates)))
    (o_xInvalidStates : Oex K xInvalidStates ∧ L2.XfC K xInvalidStates ∧ L2.ExcC K xInvalidStates)
    (n_xInvalidStates_position : PySem.W.findIn K (.ref xInvalidStates) "position" = some none)
    (g_xInvalidMoves : PySem.W.nsIn K mainGlobals "InvalidMoves" = some (some (.ref xInvalidMoves)))
    (o_xInvalidMoves : Oex K xInvalidMoves ∧ L2.XfC K xInvalidMoves ∧ L2.ExcC K xInvalidMoves)
    (n_xInvalidMoves_position : PySem.W.findIn K (.ref xInvalidMoves) "position" = some none)
    (g_xInvalidText : PySem.W.nsIn K mainGlobals "InvalidText" = some (some (.ref xInvalidText)))
    (o_xInvalidText : Oex K xInvalidText ∧ L2.XfC K xInvalidText ∧ L2.ExcC K xInvalidText)
    (n_xInvalidText_line : PySem.W.findIn K (.ref xInvalidText) "line" = some none)
    (g_xUnknownWord : PySem.W.nsIn K mainGlobals "UnknownWord" = some (some (.ref xUnknownWord)))
    (o_xUnknownWord : Oex K xUnknownWord ∧ L2.XfC K xUnknownWord ∧ L2.ExcC K xUnknownWord)
    (n_xUnknownWord_value : PySem.W.findIn K (.ref xUnknownWord) "value" = some none)
    (g_xCommandFailed : PySem.W.nsIn K mainGlobals "CommandFailed" = some (some (.ref xCommandFailed)))
    (o_xCommandFailed : Oex K xCommandFailed ∧ L2.XfC K xCommandFailed ∧ L2.ExcC K xCommandFailed)
    (n_xCommandFailed_position : PySem.W.findIn K (.ref xCommandFailed) "position" = some none)
    (g_xNotBalanced : PySem.W.nsIn K mainGlobals "NotBalanced" = some (some (.ref xNotBalanced)))
    (o_xNotBalanced : Oex K xNotBalanced ∧ L2.XfC K xNotBalanced ∧ L2.ExcC K xNotBalanced)
    (n_xNotBalanced_columns : PySem.W.findIn K (.ref xNotBalanced) "columns" = some none)
    (n_xNotBalanced_rows : PySem.W.findIn K (.ref xNotBalanced) "rows" = some none)
    (g_xOtherPlan : PySem.W.nsIn K mainGlobals "OtherPlan" = some (some (.ref xOtherPlan)))
    (o_xOtherPlan : Oex K xOtherPlan ∧ L2.XfC K xOtherPlan ∧ L2.ExcC K xOtherPlan)
    (n_xOtherPlan_one : PySem.W.findIn K (.ref xOtherPlan) "one" = some none)
    (n_xOtherPlan_other : PySem.W.findIn K (.ref xOtherPlan) "other" = some none)
    (g_xOtherMap : PySem.W.nsIn K mainGlobals "OtherMap" = some (some (.ref xOtherMap)))
    (o_xOtherMap : Oex K xOtherMap ∧ L2.XfC K xOtherMap ∧ L2.ExcC K xOtherMap)
    (n_xOtherMap_one : PySem.W.findIn K (.ref xOtherMap) "one" = some none)
    (n_xOtherMap_other : PySem.W.findIn K (.ref xOtherMap) "other" = some none)
    (g_xNoNeighbour : PySem.W.nsIn K mainGlobals "NoNeighbour" = some (some (.ref xNoNeighbour)))
    (o_xNoNeighbour : Oex K xNoNeighbour ∧ L2.XfC K xNoNeighbour ∧ L2.ExcC K xNoNeighbour)
    (n_xNoNeighbour_value : PySem.W.findIn K (.ref xNoNeighbour) "value" = some none)
    (n_xNoNeighbour_move : PySem.W.findIn K (.ref xNoNeighbour) "move" = some none)
    (g_xTooMany : PySem.W.nsIn K mainGlobals "TooMany" = some (some (.ref xTooMany)))
    (o_xTooMany : Oex K xTooMany ∧ L2.XfC K xTooMany ∧ L2.ExcC K xTooMany)
    (n_xTooMany_what : PySem.W.findIn K (.ref xTooMany) "what" = some none)
    (n_xTooMany_limit : PySem.W.findIn K (.ref xTooMany) "limit" = some none)
    (g_xDividedByZero : PySem.W.nsIn K mainGlobals "DividedByZero" = some (some (.ref xDividedByZero)))
    (o_xDividedByZero : Oex K xDividedByZero ∧ L2.XfC K xDividedByZero ∧ L2.ExcC K xDividedByZero)
    (v0_xDividedByZero : ev0B K xDividedByZero = true)
    (g_xNothingToUndo : PySem.W.nsIn K mainGlobals "NothingToUndo" = some (some (.ref xNothingToUndo)))
    (o_xNothingToUndo : Oex K xNothingToUndo ∧ L2.XfC K xNothingToUndo ∧ L2.ExcC K xNothingToUndo)
    (v0_xNothingToUndo : ev0B K xNothingToUndo = true)
    (z_ValueError : PySem.W.nsIn K mainGlobals "ValueError" = some none)
    (z_RuntimeError : PySem.W.nsIn K mainGlobals "RuntimeError" = some none)
    (z_LookupError : PySem.W.nsIn K mainGlobals "LookupError" = some none)
    (z_ArithmeticError : PySem.W.nsIn K mainGlobals "ArithmeticError" = some none)
    (z_IndexError : PySem.W.nsIn K mainGlobals "IndexError" = some none)
    (z_KeyError : PySem.W.nsIn K mainGlobals "KeyError" = some none)
    (z_TypeError : PySem.W.nsIn K mainGlobals "TypeError" = some none)
    (z_ZeroDivisionError : PySem.W.nsIn K mainGlobals "ZeroDivisionError" = some none)
    (g_xCellError : PySem.W.nsIn K mainGlobals "CellError" = some (some (.ref xCellError)))
    (o_xCellError : Oex K xCellError ∧ L2.XfC K xCellError ∧ L2.ExcC K xCellError)
    (v0_xCellError : ev0B K xCellError = true)
    (g_xMissingError : PySem.W.nsIn K mainGlobals "MissingError" = some (some (.ref xMissingError)))
    (o_xMissingError : Oex K xMissingError ∧ L2.XfC K xMissingError ∧ L2.ExcC K xMissingError)
    (v0_xMissingError : ev0B K xMissingError = true)
    (g_xStateError : PySem.W.nsIn K mainGlobals "StateError" = some (some (.ref xStateError)))
    (o_xStateError : Oex K xStateError ∧ L2.XfC K xStateError ∧ L2.ExcC K xStateError)
    (v0_xStateError : ev0B K xStateError = true)
    (g_xLimitError : PySem.W.nsIn K mainGlobals "LimitError" = some (some (.ref xLimitError)))
    (o_xLimitError : Oex K xLimitError ∧ L2.XfC K xLimitError ∧ L2.ExcC K xLimitError)
    (v0_xLimitError : ev0B K xLimitError = true)
    (xb126 : ErT K (xInvalidNumber :: xInvalidPhase :: xInvalidSign :: xInvalidPair :: xInvalidLength :: xInvalidClosed :: xInvalidAxis :: xInvalidName :: xInvalidPlace :: xInvalidKind :: xInvalidDirection :: xInvalidMove :: xInvalidEdges :: xInvalidBegins :: xInvalidEntry :: xInvalidReach :: xInvalidDistance :: xInvalidLooks :: xInvalidPlaces :: xInvalidWord :: xInvalidTarget :: xInvalidState :: xInvalidRule :: xInvalidTable :: xInvalidMap :: xInvalidPlan :: xInvalidGauge :: xInvalidClaim :: xInvalidCommand :: xInvalidRounds :: xInvalidStates :: xInvalidMoves :: xInvalidText :: xUnknownWord :: xCommandFailed :: xNotBalanced :: xOtherPlan :: xOtherMap :: xNoNeighbour :: xTooMany :: xDividedByZero :: xNothingToUndo :: []) [xCellError, xMissingError, xStateError, xLimitError])
    (a_law : PySem.W.nsIn K mainGlobals "law" = some (some (.ref f_law)))
    (F_law : Df K "law" "law" s_law [] f_law fd_law)
    (a_pot : PySem.W.nsIn K mainGlobals "_law_pot" = some (some (.ref f_pot)))
    (F_pot : Df K "_law_pot" "_law_pot" s_pot [] f_pot fd_pot)
    (a_right : PySem.W.nsIn K mainGlobals "_law_right" = some (some (.ref f_right)))
    (F_right : Df K "_law_right" "_law_right" s_right [] f_right fd_right)
    (a_pick : PySem.W.nsIn K mainGlobals "_law_pick" = some (some (.ref f_pick)))
    (F_pick : Df K "_law_pick" "_law_pick" s_pick [] f_pick fd_pick)
    (a_draw : PySem.W.nsIn K mainGlobals "_law_draw" = some (some (.ref f_draw)))
    (F_draw : Df K "_law_draw" "_law_draw" s_draw [] f_draw fd_draw)
    (a_all : PySem.W.nsIn K mainGlobals "_law_all" = some (some (.ref f_all)))
    (F_all : Df K "_law_all" "_law_all" s_all [] f_all fd_all)
    (a_eInvalidNumber : PySem.W.findIn K (.ref xInvalidNumber) "__init__" = some (some (.ref f_eInvalidNumber)))
    (i_eInvalidNumber : PySem.W.typeIn K (.ref f_eInvalidNumber) = some (.type "function"))
    (F_eInvalidNumber : Df K "__init__" "InvalidNumber.__init__" s_eInvalidNumber [] f_eInvalidNumber fd_eInvalidNumber)
    (a_eInvalidPhase : PySem.W.findIn K (.ref xInvalidPhase) "__init__" = some (some (.ref f_eInvalidPhase)))
    (i_eInvalidPhase : PySem.W.typeIn K (.ref f_eInvalidPhase) = some (.type "function"))
    (F_eInvalidPhase : Df K "__init__" "InvalidPhase.__init__" s_eInvalidPhase [] f_eInvalidPhase fd_eInvalidPhase)
    (a_eInvalidSign : PySem.W.findIn K (.ref xInvalidSign) "__init__" = some (some (.ref f_eInvalidSign)))
    (i_eInvalidSign : PySem.W.typeIn K (.ref f_eInvalidSign) = some (.type "function"))
    (F_eInvalidSign : Df K "__init__" "InvalidSign.__init__" s_eInvalidSign [] f_eInvalidSign fd_eInvalidSign)
    (a_eInvalidPair : PySem.W.findIn K (.ref xInvalidPair) "__init__" = some (some (.ref f_eInvalidPair)))
    (i_eInvalidPair : PySem.W.typeIn K (.ref f_eInvalidPair) = some (.type "function"))
    (F_eInvalidPair : Df K "__init__" "InvalidPair.__init__" s_eInvalidPair [] f_eInvalidPair fd_eInvalidPair)
    (a_eInvalidLength : PySem.W.findIn K (.ref xInvalidLength) "__init__" = some (some (.ref f_eInvalidLength)))
    (i_eInvalidLength : PySem.W.typeIn K (.ref f_eInvalidLength) = some (.type "function"))
    (F_eInvalidLength : Df K "__init__" "InvalidLength.__init__" s_eInvalidLength [] f_eInvalidLength fd_eInvalidLength)
    (a_eInvalidClosed : PySem.W.findIn K (.ref xInvalidClosed) "__init__" = some (some (.ref f_eInvalidClosed)))
    (i_eInvalidClosed : PySem.W.typeIn K (.ref f_eInvalidClosed) = some (.type "function"))
    (F_eInvalidClosed : Df K "__init__" "InvalidClosed.__init__" s_eInvalidClosed [] f_eInvalidClosed fd_eInvalidClosed)
    (a_eInvalidAxis : PySem.W.findIn K (.ref xInvalidAxis) "__init__" = some (some (.ref f_eInvalidAxis)))
    (i_eInvalidAxis : PySem.W.typeIn K (.ref f_eInvalidAxis) = some (.type "function"))
    (F_eInvalidAxis : Df K "__init__" "InvalidAxis.__init__" s_eInvalidAxis [] f_eInvalidAxis fd_eInvalidAxis)
    (a_eInvalidName : PySem.W.findIn K (.ref xInvalidName) "__init__" = some (some (.ref f_eInvalidName)))
    (i_eInvalidName : PySem.W.typeIn K (.ref f_eInvalidName) = some (.type "function"))
    (F_eInvalidName : Df K "__init__" "InvalidName.__init__" s_eInvalidName [] f_eInvalidName fd_eInvalidName)
    (a_eInvalidPlace : PySem.W.findIn K (.ref xInvalidPlace) "__init__" = some (some (.ref f_eInvalidPlace)))
    (i_eInvalidPlace : PySem.W.typeIn K (.ref f_eInvalidPlace) = some (.type "function"))
    (F_eInvalidPlace : Df K "__init__" "InvalidPlace.__init__" s_eInvalidPlace [] f_eInvalidPlace fd_eInvalidPlace)
    (a_eInvalidKind : PySem.W.findIn K (.ref xInvalidKind) "__init__" = some (some (.ref f_eInvalidKind)))
    (i_eInvalidKind : PySem.W.typeIn K (.ref f_eInvalidKind) = some (.type "function"))
    (F_eInvalidKind : Df K "__init__" "InvalidKind.__init__" s_eInvalidKind [] f_eInvalidKind fd_eInvalidKind)
    (a_eInvalidDirection : PySem.W.findIn K (.ref xInvalidDirection) "__init__" = some (some (.ref f_eInvalidDirection)))
    (i_eInvalidDirection : PySem.W.typeIn K (.ref f_eInvalidDirection) = some (.type "function"))
    (F_eInvalidDirection : Df K "__init__" "InvalidDirection.__init__" s_eInvalidDirection [] f_eInvalidDirection fd_eInvalidDirection)
    (a_eInvalidMove : PySem.W.findIn K (.ref xInvalidMove) "__init__" = some (some (.ref f_eInvalidMove)))
    (i_eInvalidMove : PySem.W.typeIn K (.ref f_eInvalidMove) = some (.type "function"))
    (F_eInvalidMove : Df K "__init__" "InvalidMove.__init__" s_eInvalidMove [] f_eInvalidMove fd_eInvalidMove)
    (a_eInvalidEdges : PySem.W.findIn K (.ref xInvalidEdges) "__init__" = some (some (.ref f_eInvalidEdges)))
    (i_eInvalidEdges : PySem.W.typeIn K (.ref f_eInvalidEdges) = some (.type "function"))
    (F_eInvalidEdges : Df K "__init__" "InvalidEdges.__init__" s_eInvalidEdges [] f_eInvalidEdges fd_eInvalidEdges)
    (a_eInvalidBegins : PySem.W.findIn K (.ref xInvalidBegins) "__init__" = some (some (.ref f_eInvalidBegins)))
    (i_eInvalidBegins : PySem.W.typeIn K (.ref f_eInvalidBegins) = some (.type "function"))
    (F_eInvalidBegins : Df K "__init__" "InvalidBegins.__init__" s_eInvalidBegins [] f_eInvalidBegins fd_eInvalidBegins)
    (a_eInvalidEntry : PySem.W.findIn K (.ref xInvalidEntry) "__init__" = some (some (.ref f_eInvalidEntry)))
    (i_eInvalidEntry : PySem.W.typeIn K (.ref f_eInvalidEntry) = some (.type "function"))
    (F_eInvalidEntry : Df K "__init__" "InvalidEntry.__init__" s_eInvalidEntry [] f_eInvalidEntry fd_eInvalidEntry)
    (a_eInvalidReach : PySem.W.findIn K (.ref xInvalidReach) "__init__" = some (some (.ref f_eInvalidReach)))
    (i_eInvalidReach : PySem.W.typeIn K (.ref f_eInvalidReach) = some (.type "function"))
    (F_eInvalidReach : Df K "__init__" "InvalidReach.__init__" s_eInvalidReach [] f_eInvalidReach fd_eInvalidReach)
    (a_eInvalidDistance : PySem.W.findIn K (.ref xInvalidDistance) "__init__" = some (some (.ref f_eInvalidDistance)))
    (i_eInvalidDistance : PySem.W.typeIn K (.ref f_eInvalidDistance) = some (.type "function"))
    (F_eInvalidDistance : Df K "__init__" "InvalidDistance.__init__" s_eInvalidDistance [] f_eInvalidDistance fd_eInvalidDistance)
    (a_eInvalidLooks : PySem.W.findIn K (.ref xInvalidLooks) "__init__" = some (some (.ref f_eInvalidLooks)))
    (i_eInvalidLooks : PySem.W.typeIn K (.ref f_eInvalidLooks) = some (.type "function"))
    (F_eInvalidLooks : Df K "__init__" "InvalidLooks.__init__" s_eInvalidLooks [] f_eInvalidLooks fd_eInvalidLooks)
    (a_eInvalidPlaces : PySem.W.findIn K (.ref xInvalidPlaces) "__init__" = some (some (.ref f_eInvalidPlaces)))
    (i_eInvalidPlaces : PySem.W.typeIn K (.ref f_eInvalidPlaces) = some (.type "function"))
    (F_eInvalidPlaces : Df K "__init__" "InvalidPlaces.__init__" s_eInvalidPlaces [] f_eInvalidPlaces fd_eInvalidPlaces)
    (a_eInvalidWord : PySem.W.findIn K (.ref xInvalidWord) "__init__" = some (some (.ref f_eInvalidWord)))
    (i_eInvalidWord : PySem.W.typeIn K (.ref f_eInvalidWord) = some (.type "function"))
    (F_eInvalidWord : Df K "__init__" "InvalidWord.__init__" s_eInvalidWord [] f_eInvalidWord fd_eInvalidWord)
    (a_eInvalidTarget : PySem.W.findIn K (.ref xInvalidTarget) "__init__" = some (some (.ref f_eInvalidTarget)))
    (i_eInvalidTarget : PySem.W.typeIn K (.ref f_eInvalidTarget) = some (.type "function"))
    (F_eInvalidTarget : Df K "__init__" "InvalidTarget.__init__" s_eInvalidTarget [] f_eInvalidTarget fd_eInvalidTarget)
    (a_eInvalidState : PySem.W.findIn K (.ref xInvalidState) "__init__" = some (some (.ref f_eInvalidState)))
    (i_eInvalidState : PySem.W.typeIn K (.ref f_eInvalidState) = some (.type "function"))
    (F_eInvalidState : Df K "__init__" "InvalidState.__init__" s_eInvalidState [] f_eInvalidState fd_eInvalidState)
    (a_eInvalidRule : PySem.W.findIn K (.ref xInvalidRule) "__init__" = some (some (.ref f_eInvalidRule)))
    (i_eInvalidRule : PySem.W.typeIn K (.ref f_eInvalidRule) = some (.type "function"))
    (F_eInvalidRule : Df K "__init__" "InvalidRule.__init__" s_eInvalidRule [] f_eInvalidRule fd_eInvalidRule)
    (a_eInvalidTable : PySem.W.findIn K (.ref xInvalidTable) "__init__" = some (some (.ref f_eInvalidTable)))
    (i_eInvalidTable : PySem.W.typeIn K (.ref f_eInvalidTable) = some (.type "function"))
    (F_eInvalidTable : Df K "__init__" "InvalidTable.__init__" s_eInvalidTable [] f_eInvalidTable fd_eInvalidTable)
    (a_eInvalidMap : PySem.W.findIn K (.ref xInvalidMap) "__init__" = some (some (.ref f_eInvalidMap)))
    (i_eInvalidMap : PySem.W.typeIn K (.ref f_eInvalidMap) = some (.type "function"))
    (F_eInvalidMap : Df K "__init__" "InvalidMap.__init__" s_eInvalidMap [] f_eInvalidMap fd_eInvalidMap)
    (a_eInvalidPlan : PySem.W.findIn K (.ref xInvalidPlan) "__init__" = some (some (.ref f_eInvalidPlan)))
    (i_eInvalidPlan : PySem.W.typeIn K (.ref f_eInvalidPlan) = some (.type "function"))
    (F_eInvalidPlan : Df K "__init__" "InvalidPlan.__init__" s_eInvalidPlan [] f_eInvalidPlan fd_eInvalidPlan)
    (a_eInvalidGauge : PySem.W.findIn K (.ref xInvalidGauge) "__init__" = some (some (.ref f_eInvalidGauge)))
    (i_eInvalidGauge : PySem.W.typeIn K (.ref f_eInvalidGauge) = some (.type "function"))
    (F_eInvalidGauge : Df K "__init__" "InvalidGauge.__init__" s_eInvalidGauge [] f_eInvalidGauge fd_eInvalidGauge)
    (a_eInvalidClaim : PySem.W.findIn K (.ref xInvalidClaim) "__init__" = some (some (.ref f_eInvalidClaim)))
    (i_eInvalidClaim : PySem.W.typeIn K (.ref f_eInvalidClaim) = some (.type "function"))
    (F_eInvalidClaim : Df K "__init__" "InvalidClaim.__init__" s_eInvalidClaim [] f_eInvalidClaim fd_eInvalidClaim)
    (a_eInvalidCommand : PySem.W.findIn K (.ref xInvalidCommand) "__init__" = some (some (.ref f_eInvalidCommand)))
    (i_eInvalidCommand : PySem.W.typeIn K (.ref f_eInvalidCommand) = some (.type "function"))
    (F_eInvalidCommand : Df K "__init__" "InvalidCommand.__init__" s_eInvalidCommand [] f_eInvalidCommand fd_eInvalidCommand)
    (a_eInvalidRounds : PySem.W.findIn K (.ref xInvalidRounds) "__init__" = some (some (.ref f_eInvalidRounds)))
    (i_eInvalidRounds : PySem.W.typeIn K (.ref f_eInvalidRounds) = some (.type "function"))
    (F_eInvalidRounds : Df K "__init__" "InvalidRounds.__init__" s_eInvalidRounds [] f_eInvalidRounds fd_eInvalidRounds)
    (a_eInvalidStates : PySem.W.findIn K (.ref xInvalidStates) "__init__" = some (some (.ref f_eInvalidStates)))
    (i_eInvalidStates : PySem.W.typeIn K (.ref f_eInvalidStates) = some (.type "function"))
    (F_eInvalidStates : Df K "__init__" "InvalidStates.__init__" s_eInvalidStates [] f_eInvalidStates fd_eInvalidStates)
    (a_eInvalidMoves : PySem.W.findIn K (.ref xInvalidMoves) "__init__" = some (some (.ref f_eInvalidMoves)))
    (i_eInvalidMoves : PySem.W.typeIn K (.ref f_eInvalidMoves) = some (.type "function"))
    (F_eInvalidMoves : Df K "__init__" "InvalidMoves.__init__" s_eInvalidMoves [] f_eInvalidMoves fd_eInvalidMoves)
    (a_eInvalidText : PySem.W.findIn K (.ref xInvalidText) "__init__" = some (some (.ref f_eInvalidText)))
    (i_eInvalidText : PySem.W.typeIn K (.ref f_eInvalidText) = some (.type "function"))
    (F_eInvalidText : Df K "__init__" "InvalidText.__init__" s_eInvalidText [] f_eInvalidText fd_eInvalidText)
    (a_eUnknownWord : PySem.W.findIn K (.ref xUnknownWord) "__init__" = some (some (.ref f_eUnknownWord)))
    (i_eUnknownWord : PySem.W.typeIn K (.ref f_eUnknownWord) = some (.type "function"))
    (F_eUnknownWord : Df K "__init__" "UnknownWord.__init__" s_eUnknownWord [] f_eUnknownWord fd_eUnknownWord)
    (a_eCommandFailed : PySem.W.findIn K (.ref xCommandFailed) "__init__" = some (some (.ref f_eCommandFailed)))
    (i_eCommandFailed : PySem.W.typeIn K (.ref f_eCommandFailed) = some (.type "function"))
    (F_eCommandFailed : Df K "__init__" "CommandFailed.__init__" s_eCommandFailed [] f_eCommandFailed fd_eCommandFailed)
    (a_eNotBalanced : PySem.W.findIn K (.ref xNotBalanced) "__init__" = some (some (.ref f_eNotBalanced)))
    (i_eNotBalanced : PySem.W.typeIn K (.ref f_eNotBalanced) = some (.type "function"))
    (F_eNotBalanced : Df K "__init__" "NotBalanced.__init__" s_eNotBalanced [] f_eNotBalanced fd_eNotBalanced)
    (a_eOtherPlan : PySem.W.findIn K (.ref xOtherPlan) "__init__" = some (some (.ref f_eOtherPlan)))
    (i_eOtherPlan : PySem.W.typeIn K (.ref f_eOtherPlan) = some (.type "function"))
    (F_eOtherPlan : Df K "__init__" "OtherPlan.__init__" s_eOtherPlan [] f_eOtherPlan fd_eOtherPlan)
    (a_eOtherMap : PySem.W.findIn K (.ref xOtherMap) "__init__" = some (some (.ref f_eOtherMap)))
    (i_eOtherMap : PySem.W.typeIn K (.ref f_eOtherMap) = some (.type "function"))
    (F_eOtherMap : Df K "__init__" "OtherMap.__init__" s_eOtherMap [] f_eOtherMap fd_eOtherMap)
    (a_eNoNeighbour : PySem.W.findIn K (.ref xNoNeighbour) "__init__" = some (some (.ref f_eNoNeighbour)))
    (i_eNoNeighbour : PySem.W.typeIn K (.ref f_eNoNeighbour) = some (.type "function"))
    (F_eNoNeighbour : Df K "__init__" "NoNeighbour.__init__" s_eNoNeighbour [] f_eNoNeighbour fd_eNoNeighbour)
    (a_eTooMany : PySem.W.findIn K (.ref xTooMany) "__init__" = some (some (.ref f_eTooMany)))
    (i_eTooMany : PySem.W.typeIn K (.ref f_eTooMany) = some (.type "function"))
    (F_eTooMany : Df K "__init__" "TooMany.__init__" s_eTooMany [] f_eTooMany fd_eTooMany)
    (a_named : PySem.W.nsIn K mainGlobals "_law_named" = some (some (.ref f_named)))
    (F_named : Df K "_law_named" "_law_named" s_named [] f_named fd_named)
    (a_kept : PySem.W.nsIn K mainGlobals "_law_kept" = some (some (.ref f_kept)))
    (F_kept : Df K "_law_kept" "_law_kept" s_kept [] f_kept fd_kept)
    (a_flags : PySem.W.nsIn K mainGlobals "_law_flags" = some (some (.ref f_flags)))
    (F_flags : Df K "_law_flags" "_law_flags" s_flags [] f_flags fd_flags)
    (a_grounds : PySem.W.nsIn K mainGlobals "_law_grounds" = some (some (.ref f_grounds)))
    (F_grounds : Df K "_law_grounds" "_law_grounds" s_grounds [] f_grounds fd_grounds)
    (a_ground : PySem.W.nsIn K mainGlobals "_law_ground" = some (some (.ref f_ground)))
    (F_ground : Df K "_law_ground" "_law_ground" s_ground [] f_ground fd_ground)
    (a_width : PySem.W.nsIn K mainGlobals "_law_width" = some (some (.ref f_width)))
    (F_width : Df K "_law_width" "_law_width" s_width [] f_width fd_width)
    (a_dueg : PySem.W.nsIn K mainGlobals "_law_due_grounds" = some (some (.ref f_dueg)))
    (F_dueg : Df K "_law_due_grounds" "_law_due_grounds" s_dueg [] f_dueg fd_dueg) :
    ∃ fd : FuncData, (∀ (s : Shared) (v : Value), BindsTo s fd ⟨[v], []⟩ [("_law_script", v)]) ∧ ∀ base : Heap, K.In base → base.Ns mainGlobals mg → FnG P w K mg base 9 fa fd ["_law_script"] (sp_law K) := by
  have B : Blt mg := ⟨PySem.W.mg_none_of X Gn z_len, PySem.W.mg_none_of X Gn z_abs, PySem.W.mg_none_of X Gn z_max, PySem.W.mg_none_of X Gn z_min, PySem.W.mg_none_of X Gn z_int, PySem.W.mg_none_of X Gn z_bool, PySem.W.mg_none_of X Gn z_str, PySem.W.mg_none_of X Gn z_repr, PySem.W.mg_none_of X Gn z_all, PySem.W.mg_none_of X Gn z_any, PySem.W.mg_none_of X Gn z_range, PySem.W.mg_none_of X Gn z_divmod, PySem.W.mg_none_of X Gn z_isinstance, PySem.W.mg_none_of X Gn z_list, PySem.W.mg_none_of X Gn z_tuple, PySem.W.mg_none_of X Gn z_dict, PySem.W.mg_none_of X Gn z_enumerate, PySem.W.mg_none_of X Gn z_zip, PySem.W.mg_none_of X Gn z_sorted, PySem.W.mg_none_of X Gn z_sum, PySem.W.mg_none_of X Gn z_type⟩
  have BE : BltE mg := ⟨PySem.W.mg_none_of X Gn z_ValueError, PySem.W.mg_none_of X Gn z_RuntimeError, PySem.W.mg_none_of X Gn z_LookupError, PySem.W.mg_none_of X Gn z_ArithmeticError, PySem.W.mg_none_of X Gn z_IndexError⟩
  have BE2 : BltE2 mg := ⟨PySem.W.mg_none_of X Gn z_KeyError, PySem.W.mg_none_of X Gn z_TypeError, PySem.W.mg_none_of X Gn z_ZeroDivisionError⟩
  have b_pot := F_pot.bind (ps := ["_law_script", "_law_k"]) fun _ _ _ _ _ _ us hl => match us, hl with | [_, _], _ => rfl
  have b_right := F_right.bind (ps := ["_law_pot_here"]) fun _ _ _ _ _ _ us hl => match us, hl with | [_], _ => rfl
  have b_pick := F_pick.bind (ps := ["_law_pot_here", "_law_some"]) fun _ _ _ _ _ _ us hl => match us, hl with | [_, _], _ => rfl
  have b_draw := F_draw.bind (ps := ["_law_pot_here", "_law_size"]) fun _ _ _ _ _ _ us hl => match us, hl with | [_, _], _ => rfl
  have b_all := F_all.bind (ps := ["_law_a", "_law_b"]) fun _ _ _ _ _ _ us hl => match us, hl with | [_, _], _ => rfl
  have b_eInvalidNumber := F_eInvalidNumber.bind (ps := ["self", "value"]) fun _ _ _ _ _ _ us hl => match us, hl with | [_, _], _ => rfl
  have b_eInvalidPhase := F_eInvalidPhase.bind (ps := ["self", "value"]) fun _ _ _ _ _ _ us hl => match us, hl with | [_, _], _ => rfl
  have b_eInvalidSign := F_eInvalidSign.bind (ps := ["self", "value"]) fun _ _ _ _ _ _ us hl => match us, hl with | [_, _], _ => rfl
  have b_eInvalidPair := F_eInvalidPair.bind (ps := ["self", "value"]) fun _ _ _ _ _ _ us hl => match us, hl with | [_, _], _ => rfl
  have b_eInvalidLength := F_eInvalidLength.bind (ps := ["self", "value"]) fun _ _ _ _ _ _ us hl => match us, hl with | [_, _], _ => rfl
  have b_eInvalidClosed := F_eInvalidClosed.bind (ps := ["self", "value"]) fun _ _ _ _ _ _ us hl => match us, hl with | [_, _], _ => rfl
  have b_eInvalidAxis := F_eInvalidAxis.bind (ps := ["self", "value"]) fun _ _ _ _ _ _ us hl => match us, hl with | [_, _], _ => rfl
  have b_eInvalidName := F_eInvalidName.bind (ps := ["self", "value"]) fun _ _ _ _ _ _ us hl => match us, hl with | [_, _], _ => rfl
  have b_eInvalidPlace := F_eInvalidPlace.bind (ps := ["self", "value"]) fun _ _ _ _ _ _ us hl => match us, hl with | [_, _], _ => rfl
  have b_eInvalidKind := F_eInvalidKind.bind (ps := ["self", "value"]) fun _ _ _ _ _ _ us hl => match us, hl with | [_, _], _ => rfl
  have b_eInvalidDirection := F_eInvalidDirection.bind (ps := ["self", "value"]) fun _ _ _ _ _ _ us hl => match us, hl with | [_, _], _ => rfl
  have b_eInvalidMove := F_eInvalidMove.bind (ps := ["self", "value"]) fun _ _ _ _ _ _ us hl => match us, hl with | [_, _], _ => rfl
  have b_eInvalidEdges := F_eInvalidEdges.bind (ps := ["self", "value"]) fun _ _ _ _ _ _ us hl => match us, hl with | [_, _], _ => rfl
  have b_eInvalidBegins := F_eInvalidBegins.bind (ps := ["self", "value"]) fun _ _ _ _ _ _ us hl => match us, hl with | [_, _], _ => rfl
  have b_eInvalidEntry := F_eInvalidEntry.bind (ps := ["self", "value"]) fun _ _ _ _ _ _ us hl => match us, hl with | [_, _], _ => rfl
  have b_eInvalidReach := F_eInvalidReach.bind (ps := ["self", "value"]) fun _ _ _ _ _ _ us hl => match us, hl with | [_, _], _ => rfl
  have b_eInvalidDistance := F_eInvalidDistance.bind (ps := ["self", "value"]) fun _ _ _ _ _ _ us hl => match us, hl with | [_, _], _ => rfl
  have b_eInvalidLooks := F_eInvalidLooks.bind (ps := ["self", "value"]) fun _ _ _ _ _ _ us hl => match us, hl with | [_, _], _ => rfl
  have b_eInvalidPlaces := F_eInvalidPlaces.bind (ps := ["self", "value"]) fun _ _ _ _ _ _ us hl => match us, hl with | [_, _], _ => rfl
  have b_eInvalidWord := F_eInvalidWord.bind (ps := ["self", "value"]) fun _ _ _ _ _ _ us hl => match us, hl with | [_, _], _ => rfl
  have b_eInvalidTarget := F_eInvalidTarget.bind (ps := ["self", "value"]) fun _ _ _ _ _ _ us hl => match us, hl with | [_, _], _ => rfl
  have b_eInvalidState := F_eInvalidState.bind (ps := ["self", "value"]) fun _ _ _ _ _ _ us hl => match us, hl with | [_, _], _ => rfl
  have b_eInvalidRule := F_eInvalidRule.bind (ps := ["self", "value"]) fun _ _ _ _ _ _ us hl => match us, hl with | [_, _], _ => rfl
  have b_eInvalidTable := F_eInvalidTable.bind (ps := ["self", "value"]) fun _ _ _ _ _ _ us hl => match us, hl with | [_, _], _ => rfl
  have b_eInvalidMap := F_eInvalidMap.bind (ps := ["self", "value"]) fun _ _ _ _ _ _ us hl => match us, hl with | [_, _], _ => rfl
  have b_eInvalidPlan := F_eInvalidPlan.bind (ps := ["self", "value"]) fun _ _ _ _ _ _ us hl => match us, hl with | [_, _], _ => rfl
  have b_eInvalidGauge := F_eInvalidGauge.bind (ps := ["self", "value"]) fun _ _ _ _ _ _ us hl => match us, hl with | [_, _], _ => rfl
  have b_eInvalidClaim := F_eInvalidClaim.bind (ps := ["self", "value"]) fun _ _ _ _ _ _ us hl => match us, hl with | [_, _], _ => rfl
  have b_eInvalidCommand := F_eInvalidCommand.bind (ps := ["self", "value"]) fun _ _ _ _ _ _ us hl => match us, hl with | [_, _], _ => rfl
  have b_eInvalidRounds := F_eInvalidRounds.bind (ps := ["self", "position"]) fun _ _ _ _ _ _ us hl => match us, hl with | [_, _], _ => rfl
  have b_eInvalidStates := F_eInvalidStates.bind (ps := ["self", "position"]) fun _ _ _ _ _ _ us hl => match us, hl with | [_, _], _ => rfl
  have b_eInvalidMoves := F_eInvalidMoves.bind (ps := ["self", "position"]) fun _ _ _ _ _ _ us hl => match us, hl with | [_, _], _ => rfl
  have b_eInvalidText := F_eInvalidText.bind (ps := ["self", "line"]) fun _ _ _ _ _ _ us hl => match us, hl with | [_, _], _ => rfl
  have b_eUnknownWord := F_eUnknownWord.bind (ps := ["self", "value"]) fun _ _ _ _ _ _ us hl => match us, hl with | [_, _], _ => rfl
  have b_eCommandFailed := F_eCommandFailed.bind (ps := ["self", "position"]) fun _ _ _ _ _ _ us hl => match us, hl with | [_, _], _ => rfl
  have b_eNotBalanced := F_eNotBalanced.bind (ps := ["self", "columns", "rows"]) fun _ _ _ _ _ _ us hl => match us, hl with | [_, _, _], _ => rfl
  have b_eOtherPlan := F_eOtherPlan.bind (ps := ["self", "one", "other"]) fun _ _ _ _ _ _ us hl => match us, hl with | [_, _, _], _ => rfl
  have b_eOtherMap := F_eOtherMap.bind (ps := ["self", "one", "other"]) fun _ _ _ _ _ _ us hl => match us, hl with | [_, _, _], _ => rfl
  have b_eNoNeighbour := F_eNoNeighbour.bind (ps := ["self", "value", "move"]) fun _ _ _ _ _ _ us hl => match us, hl with | [_, _, _], _ => rfl
  have b_eTooMany := F_eTooMany.bind (ps := ["self", "what", "limit"]) fun _ _ _ _ _ _ us hl => match us, hl with | [_, _, _], _ => rfl
  have b_named := F_named.bind (ps := ["_law_a", "_law_b"]) fun _ _ _ _ _ _ us hl => match us, hl with | [_, _], _ => rfl
  have b_kept := F_kept.bind (ps := ["_law_k", "_law_e"]) fun _ _ _ _ _ _ us hl => match us, hl with | [_, _], _ => rfl
  have b_flags := F_flags.bind (ps := ["_law_e"]) fun _ _ _ _ _ _ us hl => match us, hl with | [_], _ => rfl
  have b_grounds := F_grounds.bind (ps := ["_law_e"]) fun _ _ _ _ _ _ us hl => match us, hl with | [_], _ => rfl
  have b_ground := F_ground.bind (ps := ["_law_k"]) fun _ _ _ _ _ _ us hl => match us, hl with | [_], _ => rfl
  have b_width := F_width.bind (ps := ["_law_k"]) fun _ _ _ _ _ _ us hl => match us, hl with | [_], _ => rfl
  have b_dueg := F_dueg.bind (ps := ["_law_ground_here"]) fun _ _ _ _ _ _ us hl => match us, hl with | [_], _ => rfl
  have e := hfa.symm.trans (PySem.W.mg_of X Gn a_law)
  cases e
  have hb := FunD.bindsA (ps := ["_law_script"]) F_law fun _ _ _ _ _ _ us hl => match us, hl with | [_], _ => rfl
  refine ⟨fd_law, fun s v => hb s [v] rfl, fun base XB Xn => ?_⟩
  have h0_cPot : Ca P w K mg base 1 "_law_pot" (sp_pot K) [] := ⟨_, _, _, _, ok_pot F_pot B, PySem.W.mg_of X Gn a_pot, F_pot.kp, b_pot, .nil⟩
  have h2_cDr : Ca P w K mg base 1 "_law_draw" sp_draw [] := ⟨_, _, _, _, ok_draw F_draw B, PySem.W.mg_of X Gn a_draw, F_draw.kp, b_draw, .nil⟩
  have h2_cPk : Ca P w K mg base 2 "_law_pick" (sp_pick K) [] := ⟨_, _, _, _, ok_pick F_pick B h2_cDr, PySem.W.mg_of X Gn a_pick, F_pick.kp, b_pick, .nil⟩
  have h6_eInvalidNumber : Ev1 P w K mg base "InvalidNumber" xInvalidNumber "value" := ⟨⟨o_xInvalidNumber.1, PySem.W.mg_of X Gn g_xInvalidNumber, o_xInvalidNumber.2.1, o_xInvalidNumber.2.2⟩, n_xInvalidNumber_value, ⟨_, _, _, _, ok_eInvalidNumber F_eInvalidNumber , a_eInvalidNumber, i_eInvalidNumber, b_eInvalidNumber, F_eInvalidNumber.kbn (ps := ["self", "value"]) 1 ["value"] kId kId_rel fun _ _ _ _ _ _ us ws h1 h2 => match us, ws, h1, h2 with | [_], [_], _, _ => rfl⟩⟩
  have h8_eInvalidPhase : Ev1 P w K mg base "InvalidPhase" xInvalidPhase "value" := ⟨⟨o_xInvalidPhase.1, PySem.W.mg_of X Gn g_xInvalidPhase, o_xInvalidPhase.2.1, o_xInvalidPhase.2.2⟩, n_xInvalidPhase_value, ⟨_, _, _, _, ok_eInvalidPhase F_eInvalidPhase , a_eInvalidPhase, i_eInvalidPhase, b_eInvalidPhase, F_eInvalidPhase.kbn (ps := ["self", "value"]) 1 ["value"] kId kId_rel fun _ _ _ _ _ _ us ws h1 h2 => match us, ws, h1, h2 with | [_], [_], _, _ => rfl⟩⟩
  have h10_eInvalidSign : Ev1 P w K mg base "InvalidSign" xInvalidSign "value" := ⟨⟨o_xInvalidSign.1, PySem.W.mg_of X Gn g_xInvalidSign, o_xInvalidSign.2.1, o_xInvalidSign.2.2⟩, n_xInvalidSign_value, ⟨_, _, _, _, ok_eInvalidSign F_eInvalidSign , a_eInvalidSign, i_eInvalidSign, b_eInvalidSign, F_eInvalidSign.kbn (ps := ["self", "value"]) 1 ["value"] kId kId_rel fun _ _ _ _ _ _ us ws h1 h2 => match us, ws, h1, h2 with | [_], [_], _, _ => rfl⟩⟩
  have h12_eInvalidPair : Ev1 P w K mg base "InvalidPair" xInvalidPair "value" := ⟨⟨o_xInvalidPair.1, PySem.W.mg_of X Gn g_xInvalidPair, o_xInvalidPair.2.1, o_xInvalidPair.2.2⟩, n_xInvalidPair_value, ⟨_, _, _, _, ok_eInvalidPair F_eInvalidPair , a_eInvalidPair, i_eInvalidPair, b_eInvalidPair, F_eInvalidPair.kbn (ps := ["self", "value"]) 1 ["value"] kId kId_rel fun _ _ _ _ _ _ us ws h1 h2 => match us, ws, h1, h2 with | [_], [_], _, _ => rfl⟩⟩
  have h14_eInvalidLength : Ev1 P w K mg base "InvalidLength" xInvalidLength "value" := ⟨⟨o_xInvalidLength.1, PySem.W.mg_of X Gn g_xInvalidLength, o_xInvalidLength.2.1, o_xInvalidLength.2.2⟩, n_xInvalidLength_value, ⟨_, _, _, _, ok_eInvalidLength F_eInvalidLength , a_eInvalidLength, i_eInvalidLength, b_eInvalidLength, F_eInvalidLength.kbn (ps := ["self", "value"]) 1 ["value"] kId kId_rel fun _ _ _ _ _ _ us ws h1 h2 => match us, ws, h1, h2 with | [_], [_], _, _ => rfl⟩⟩
  have h16_eInvalidClosed : Ev1 P w K mg base "InvalidClosed" xInvalidClosed "value" := ⟨⟨o_xInvalidClosed.1, PySem.W.mg_of X Gn g_xInvalidClosed, o_xInvalidClosed.2.1, o_xInvalidClosed.2.2⟩, n_xInvalidClosed_value, ⟨_, _, _, _, ok_eInvalidClosed F_eInvalidClosed , a_eInvalidClosed, i_eInvalidClosed, b_eInvalidClosed, F_eInvalidClosed.kbn (ps := ["self", "value"]) 1 ["value"] kId kId_rel fun _ _ _ _ _ _ us ws h1 h2 => match us, ws, h1, h2 with | [_], [_], _, _ => rfl⟩⟩
  have h18_eInvalidAxis : Ev1 P w K mg base "InvalidAxis" xInvalidAxis "value" := ⟨⟨o_xInvalidAxis.1, PySem.W.mg_of X Gn g_xInvalidAxis, o_xInvalidAxis.2.1, o_xInvalidAxis.2.2⟩, n_xInvalidAxis_value, ⟨_, _, _, _, ok_eInvalidAxis F_eInvalidAxis , a_eInvalidAxis, i_eInvalidAxis, b_eInvalidAxis, F_eInvalidAxis.kbn (ps := ["self", "value"]) 1 ["value"] kId kId_rel fun _ _ _ _ _ _ us ws h1 h2 => match us, ws, h1, h2 with | [_], [_], _, _ => rfl⟩⟩
  have h20_eInvalidName : Ev1 P w K mg base "InvalidName" xInvalidName "value" := ⟨⟨o_xInvalidName.1, PySem.W.mg_of X Gn g_xInvalidName, o_xInvalidName.2.1, o_xInvalidName.2.2⟩, n_xInvalidName_value, ⟨_, _, _, _, ok_eInvalidName F_eInvalidName , a_eInvalidName, i_eInvalidName, b_eInvalidName, F_eInvalidName.kbn (ps := ["self", "value"]) 1 ["value"] kId kId_rel fun _ _ _ _ _ _ us ws h1 h2 => match us, ws, h1, h2 with | [_], [_], _, _ => rfl⟩⟩
  have h22_eInvalidPlace : Ev1 P w K mg base "InvalidPlace" xInvalidPlace "value" := ⟨⟨o_xInvalidPlace.1, PySem.W.mg_of X Gn g_xInvalidPlace, o_xInvalidPlace.2.1, o_xInvalidPlace.2.2⟩, n_xInvalidPlace_value, ⟨_, _, _, _, ok_eInvalidPlace F_eInvalidPlace , a_eInvalidPlace, i_eInvalidPlace, b_eInvalidPlace, F_eInvalidPlace.kbn (ps := ["self", "value"]) 1 ["value"] kId kId_rel fun _ _ _ _ _ _ us ws h1 h2 => match us, ws, h1, h2 with | [_], [_], _, _ => rfl⟩⟩
  have h24_eInvalidKind : Ev1 P w K mg base "InvalidKind" xInvalidKind "value" := ⟨⟨o_xInvalidKind.1, PySem.W.mg_of X Gn g_xInvalidKind, o_xInvalidKind.2.1, o_xInvalidKind.2.2⟩, n_xInvalidKind_value, ⟨_, _, _, _, ok_eInvalidKind F_eInvalidKind , a_eInvalidKind, i_eInvalidKind, b_eInvalidKind, F_eInvalidKind.kbn (ps := ["self", "value"]) 1 ["value"] kId kId_rel fun _ _ _ _ _ _ us ws h1 h2 => match us, ws, h1, h2 with | [_], [_], _, _ => rfl⟩⟩
  have h26_eInvalidDirection : Ev1 P w K mg base "InvalidDirection" xInvalidDirection "value" := ⟨⟨o_xInvalidDirection.1, PySem.W.mg_of X Gn g_xInvalidDirection, o_xInvalidDirection.2.1, o_xInvalidDirection.2.2⟩, n_xInvalidDirection_value, ⟨_, _, _, _, ok_eInvalidDirection F_eInvalidDirection , a_eInvalidDirection, i_eInvalidDirection, b_eInvalidDirection, F_eInvalidDirection.kbn (ps := ["self", "value"]) 1 ["value"] kId kId_rel fun _ _ _ _ _ _ us ws h1 h2 => match us, ws, h1, h2 with | [_], [_], _, _ => rfl⟩⟩
  have h28_eInvalidMove : Ev1 P w K mg base "InvalidMove" xInvalidMove "value" := ⟨⟨o_xInvalidMove.1, PySem.W.mg_of X Gn g_xInvalidMove, o_xInvalidMove.2.1, o_xInvalidMove.2.2⟩, n_xInvalidMove_value, ⟨_, _, _, _, ok_eInvalidMove F_eInvalidMove , a_eInvalidMove, i_eInvalidMove, b_eInvalidMove, F_eInvalidMove.kbn (ps := ["self", "value"]) 1 ["value"] kId kId_rel fun _ _ _ _ _ _ us ws h1 h2 => match us, ws, h1, h2 with | [_], [_], _, _ => rfl⟩⟩
  have h30_eInvalidEdges : Ev1 P w K mg base "InvalidEdges" xInvalidEdges "value" := ⟨⟨o_xInvalidEdges.1, PySem.W.mg_of X Gn g_xInvalidEdges, o_xInvalidEdges.2.1, o_xInvalidEdges.2.2⟩, n_xInvalidEdges_value, ⟨_, _, _, _, ok_eInvalidEdges F_eInvalidEdges , a_eInvalidEdges, i_eInvalidEdges, b_eInvalidEdges, F_eInvalidEdges.kbn (ps := ["self", "value"]) 1 ["value"] kId kId_rel fun _ _ _ _ _ _ us ws h1 h2 => match us, ws, h1, h2 with | [_], [_], _, _ => rfl⟩⟩
  have h32_eInvalidBegins : Ev1 P w K mg base "InvalidBegins" xInvalidBegins "value" := ⟨⟨o_xInvalidBegins.1, PySem.W.mg_of X Gn g_xInvalidBegins, o_xInvalidBegins.2.1, o_xInvalidBegins.2.2⟩, n_xInvalidBegins_value, ⟨_, _, _, _, ok_eInvalidBegins F_eInvalidBegins , a_eInvalidBegins, i_eInvalidBegins, b_eInvalidBegins, F_eInvalidBegins.kbn (ps := ["self", "value"]) 1 ["value"] kId kId_rel fun _ _ _ _ _ _ us ws h1 h2 => match us, ws, h1, h2 with | [_], [_], _, _ => rfl⟩⟩
  have h34_eInvalidEntry : Ev1 P w K mg base "InvalidEntry" xInvalidEntry "value" := ⟨⟨o_xInvalidEntry.1, PySem.W.mg_of X Gn g_xInvalidEntry, o_xInvalidEntry.2.1, o_xInvalidEntry.2.2⟩, n_xInvalidEntry_value, ⟨_, _, _, _, ok_eInvalidEntry F_eInvalidEntry , a_eInvalidEntry, i_eInvalidEntry, b_eInvalidEntry, F_eInvalidEntry.kbn (ps := ["self", "value"]) 1 ["value"] kId kId_rel fun _ _ _ _ _ _ us ws h1 h2 => match us, ws, h1, h2 with | [_], [_], _, _ => rfl⟩⟩
  have h36_eInvalidReach : Ev1 P w K mg base "InvalidReach" xInvalidReach "value" := ⟨⟨o_xInvalidReach.1, PySem.W.mg_of X Gn g_xInvalidReach, o_xInvalidReach.2.1, o_xInvalidReach.2.2⟩, n_xInvalidReach_value, ⟨_, _, _, _, ok_eInvalidReach F_eInvalidReach , a_eInvalidReach, i_eInvalidReach, b_eInvalidReach, F_eInvalidReach.kbn (ps := ["self", "value"]) 1 ["value"] kId kId_rel fun _ _ _ _ _ _ us ws h1 h2 => match us, ws, h1, h2 with | [_], [_], _, _ => rfl⟩⟩
  have h38_eInvalidDistance : Ev1 P w K mg base "InvalidDistance" xInvalidDistance "value" := ⟨⟨o_xInvalidDistance.1, PySem.W.mg_of X Gn g_xInvalidDistance, o_xInvalidDistance.2.1, o_xInvalidDistance.2.2⟩, n_xInvalidDistance_value, ⟨_, _, _, _, ok_eInvalidDistance F_eInvalidDistance , a_eInvalidDistance, i_eInvalidDistance, b_eInvalidDistance, F_eInvalidDistance.kbn (ps := ["self", "value"]) 1 ["value"] kId kId_rel fun _ _ _ _ _ _ us ws h1 h2 => match us, ws, h1, h2 with | [_], [_], _, _ => rfl⟩⟩
  have h40_eInvalidLooks : Ev1 P w K mg base "InvalidLooks" xInvalidLooks "value" := ⟨⟨o_xInvalidLooks.1, PySem.W.mg_of X Gn g_xInvalidLooks, o_xInvalidLooks.2.1, o_xInvalidLooks.2.2⟩, n_xInvalidLooks_value, ⟨_, _, _, _, ok_eInvalidLooks F_eInvalidLooks , a_eInvalidLooks, i_eInvalidLooks, b_eInvalidLooks, F_eInvalidLooks.kbn (ps := ["self", "value"]) 1 ["value"] kId kId_rel fun _ _ _ _ _ _ us ws h1 h2 => match us, ws, h1, h2 with | [_], [_], _, _ => rfl⟩⟩
  have h42_eInvalidPlaces : Ev1 P w K mg base "InvalidPlaces" xInvalidPlaces "value" := ⟨⟨o_xInvalidPlaces.1, PySem.W.mg_of X Gn g_xInvalidPlaces, o_xInvalidPlaces.2.1, o_xInvalidPlaces.2.2⟩, n_xInvalidPlaces_value, ⟨_, _, _, _, ok_eInvalidPlaces F_eInvalidPlaces , a_eInvalidPlaces, i_eInvalidPlaces, b_eInvalidPlaces, F_eInvalidPlaces.kbn (ps := ["self", "value"]) 1 ["value"] kId kId_rel fun _ _ _ _ _ _ us ws h1 h2 => match us, ws, h1, h2 with | [_], [_], _, _ => rfl⟩⟩
  have h44_eInvalidWord : Ev1 P w K mg base "InvalidWord" xInvalidWord "value" := ⟨⟨o_xInvalidWord.1, PySem.W.mg_of X Gn g_xInvalidWord, o_xInvalidWord.2.1, o_xInvalidWord.2.2⟩, n_xInvalidWord_value, ⟨_, _, _, _, ok_eInvalidWord F_eInvalidWord , a_eInvalidWord, i_eInvalidWord, b_eInvalidWord, F_eInvalidWord.kbn (ps := ["self", "value"]) 1 ["value"] kId kId_rel fun _ _ _ _ _ _ us ws h1 h2 => match us, ws, h1, h2 with | [_], [_], _, _ => rfl⟩⟩
  have h46_eInvalidTarget : Ev1 P w K mg base "InvalidTarget" xInvalidTarget "value" := ⟨⟨o_xInvalidTarget.1, PySem.W.mg_of X Gn g_xInvalidTarget, o_xInvalidTarget.2.1, o_xInvalidTarget.2.2⟩, n_xInvalidTarget_value, ⟨_, _, _, _, ok_eInvalidTarget F_eInvalidTarget , a_eInvalidTarget, i_eInvalidTarget, b_eInvalidTarget, F_eInvalidTarget.kbn (ps := ["self", "value"]) 1 ["value"] kId kId_rel fun _ _ _ _ _ _ us ws h1 h2 => match us, ws, h1, h2 with | [_], [_], _, _ => rfl⟩⟩
  have h48_eInvalidState : Ev1 P w K mg base "InvalidState" xInvalidState "value" := ⟨⟨o_xInvalidState.1, PySem.W.mg_of X Gn g_xInvalidState, o_xInvalidState.2.1, o_xInvalidState.2.2⟩, n_xInvalidState_value, ⟨_, _, _, _, ok_eInvalidState F_eInvalidState , a_eInvalidState, i_eInvalidState, b_eInvalidState, F_eInvalidState.kbn (ps := ["self", "value"]) 1 ["value"] kId kId_rel fun _ _ _ _ _ _ us ws h1 h2 => match us, ws, h1, h2 with | [_], [_], _, _ => rfl⟩⟩
  have h50_eInvalidRule : Ev1 P w K mg base "InvalidRule" xInvalidRule "value" := ⟨⟨o_xInvalidRule.1, PySem.W.mg_of X Gn g_xInvalidRule, o_xInvalidRule.2.1, o_xInvalidRule.2.2⟩, n_xInvalidRule_value, ⟨_, _, _, _, ok_eInvalidRule F_eInvalidRule , a_eInvalidRule, i_eInvalidRule, b_eInvalidRule, F_eInvalidRule.kbn (ps := ["self", "value"]) 1 ["value"] kId kId_rel fun _ _ _ _ _ _ us ws h1 h2 => match us, ws, h1, h2 with | [_], [_], _, _ => rfl⟩⟩
  have h52_eInvalidTable : Ev1 P w K mg base "InvalidTable" xInvalidTable "value" := ⟨⟨o_xInvalidTable.1, PySem.W.mg_of X Gn g_xInvalidTable, o_xInvalidTable.2.1, o_xInvalidTable.2.2⟩, n_xInvalidTable_value, ⟨_, _, _, _, ok_eInvalidTable F_eInvalidTable , a_eInvalidTable, i_eInvalidTable, b_eInvalidTable, F_eInvalidTable.kbn (ps := ["self", "value"]) 1 ["value"] kId kId_rel fun _ _ _ _ _ _ us ws h1 h2 => match us, ws, h1, h2 with | [_], [_], _, _ => rfl⟩⟩
  have h54_eInvalidMap : Ev1 P w K mg base "InvalidMap" xInvalidMap "value" := ⟨⟨o_xInvalidMap.1, PySem.W.mg_of X Gn g_xInvalidMap, o_xInvalidMap.2.1, o_xInvalidMap.2.2⟩, n_xInvalidMap_value, ⟨_, _, _, _, ok_eInvalidMap F_eInvalidMap , a_eInvalidMap, i_eInvalidMap, b_eInvalidMap, F_eInvalidMap.kbn (ps := ["self", "value"]) 1 ["value"] kId kId_rel fun _ _ _ _ _ _ us ws h1 h2 => match us, ws, h1, h2 with | [_], [_], _, _ => rfl⟩⟩
  have h56_eInvalidPlan : Ev1 P w K mg base "InvalidPlan" xInvalidPlan "value" := ⟨⟨o_xInvalidPlan.1, PySem.W.mg_of X Gn g_xInvalidPlan, o_xInvalidPlan.2.1, o_xInvalidPlan.2.2⟩, n_xInvalidPlan_value, ⟨_, _, _, _, ok_eInvalidPlan F_eInvalidPlan , a_eInvalidPlan, i_eInvalidPlan, b_eInvalidPlan, F_eInvalidPlan.kbn (ps := ["self", "value"]) 1 ["value"] kId kId_rel fun _ _ _ _ _ _ us ws h1 h2 => match us, ws, h1, h2 with | [_], [_], _, _ => rfl⟩⟩
  have h58_eInvalidGauge : Ev1 P w K mg base "InvalidGauge" xInvalidGauge "value" := ⟨⟨o_xInvalidGauge.1, PySem.W.mg_of X Gn g_xInvalidGauge, o_xInvalidGauge.2.1, o_xInvalidGauge.2.2⟩, n_xInvalidGauge_value, ⟨_, _, _, _, ok_eInvalidGauge F_eInvalidGauge , a_eInvalidGauge, i_eInvalidGauge, b_eInvalidGauge, F_eInvalidGauge.kbn (ps := ["self", "value"]) 1 ["value"] kId kId_rel fun _ _ _ _ _ _ us ws h1 h2 => match us, ws, h1, h2 with | [_], [_], _, _ => rfl⟩⟩
  have h60_eInvalidClaim : Ev1 P w K mg base "InvalidClaim" xInvalidClaim "value" := ⟨⟨o_xInvalidClaim.1, PySem.W.mg_of X Gn g_xInvalidClaim, o_xInvalidClaim.2.1, o_xInvalidClaim.2.2⟩, n_xInvalidClaim_value, ⟨_, _, _, _, ok_eInvalidClaim F_eInvalidClaim , a_eInvalidClaim, i_eInvalidClaim, b_eInvalidClaim, F_eInvalidClaim.kbn (ps := ["self", "value"]) 1 ["value"] kId kId_rel fun _ _ _ _ _ _ us ws h1 h2 => match us, ws, h1, h2 with | [_], [_], _, _ => rfl⟩⟩
  have h62_eInvalidCommand : Ev1 P w K mg base "InvalidCommand" xInvalidCommand "value" := ⟨⟨o_xInvalidCommand.1, PySem.W.mg_of X Gn g_xInvalidCommand, o_xInvalidCommand.2.1, o_xInvalidCommand.2.2⟩, n_xInvalidCommand_value, ⟨_, _, _, _, ok_eInvalidCommand F_eInvalidCommand , a_eInvalidCommand, i_eInvalidCommand, b_eInvalidCommand, F_eInvalidCommand.kbn (ps := ["self", "value"]) 1 ["value"] kId kId_rel fun _ _ _ _ _ _ us ws h1 h2 => match us, ws, h1, h2 with | [_], [_], _, _ => rfl⟩⟩
  have h64_eInvalidRounds : Ev1 P w K mg base "InvalidRounds" xInvalidRounds "position" := ⟨⟨o_xInvalidRounds.1, PySem.W.mg_of X Gn g_xInvalidRounds, o_xInvalidRounds.2.1, o_xInvalidRounds.2.2⟩, n_xInvalidRounds_position, ⟨_, _, _, _, ok_eInvalidRounds F_eInvalidRounds , a_eInvalidRounds, i_eInvalidRounds, b_eInvalidRounds, F_eInvalidRounds.kbn (ps := ["self", "position"]) 1 ["position"] kId kId_rel fun _ _ _ _ _ _ us ws h1 h2 => match us, ws, h1, h2 with | [_], [_], _, _ => rfl⟩⟩
  have h66_eInvalidStates : Ev1 P w K mg base "InvalidStates" xInvalidStates "position" := ⟨⟨o_xInvalidStates.1, PySem.W.mg_of X Gn g_xInvalidStates, o_xInvalidStates.2.1, o_xInvalidStates.2.2⟩, n_xInvalidStates_position, ⟨_, _, _, _, ok_eInvalidStates F_eInvalidStates , a_eInvalidStates, i_eInvalidStates, b_eInvalidStates, F_eInvalidStates.kbn (ps := ["self", "position"]) 1 ["position"] kId kId_rel fun _ _ _ _ _ _ us ws h1 h2 => match us, ws, h1, h2 with | [_], [_], _, _ => rfl⟩⟩
  have h68_eInvalidMoves : Ev1 P w K mg base "InvalidMoves" xInvalidMoves "position" := ⟨⟨o_xInvalidMoves.1, PySem.W.mg_of X Gn g_xInvalidMoves, o_xInvalidMoves.2.1, o_xInvalidMoves.2.2⟩, n_xInvalidMoves_position, ⟨_, _, _, _, ok_eInvalidMoves F_eInvalidMoves , a_eInvalidMoves, i_eInvalidMoves, b_eInvalidMoves, F_eInvalidMoves.kbn (ps := ["self", "position"]) 1 ["position"] kId kId_rel fun _ _ _ _ _ _ us ws h1 h2 => match us, ws, h1, h2 with | [_], [_], _, _ => rfl⟩⟩
  have h70_eInvalidText : Ev1 P w K mg base "InvalidText" xInvalidText "line" := ⟨⟨o_xInvalidText.1, PySem.W.mg_of X Gn g_xInvalidText, o_xInvalidText.2.1, o_xInvalidText.2.2⟩, n_xInvalidText_line, ⟨_, _, _, _, ok_eInvalidText F_eInvalidText , a_eInvalidText, i_eInvalidText, b_eInvalidText, F_eInvalidText.kbn (ps := ["self", "line"]) 1 ["line"] kId kId_rel fun _ _ _ _ _ _ us ws h1 h2 => match us, ws, h1, h2 with | [_], [_], _, _ => rfl⟩⟩
  have h72_eUnknownWord : Ev1 P w K mg base "UnknownWord" xUnknownWord "value" := ⟨⟨o_xUnknownWord.1, PySem.W.mg_of X Gn g_xUnknownWord, o_xUnknownWord.2.1, o_xUnknownWord.2.2⟩, n_xUnknownWord_value, ⟨_, _, _, _, ok_eUnknownWord F_eUnknownWord , a_eUnknownWord, i_eUnknownWord, b_eUnknownWord, F_eUnknownWord.kbn (ps := ["self", "value"]) 1 ["value"] kId kId_rel fun _ _ _ _ _ _ us ws h1 h2 => match us, ws, h1, h2 with | [_], [_], _, _ => rfl⟩⟩
  have h74_eCommandFailed : Ev1 P w K mg base "CommandFailed" xCommandFailed "position" := ⟨⟨o_xCommandFailed.1, PySem.W.mg_of X Gn g_xCommandFailed, o_xCommandFailed.2.1, o_xCommandFailed.2.2⟩, n_xCommandFailed_position, ⟨_, _, _, _, ok_eCommandFailed F_eCommandFailed , a_eCommandFailed, i_eCommandFailed, b_eCommandFailed, F_eCommandFailed.kbn (ps := ["self", "position"]) 1 ["position"] kId kId_rel fun _ _ _ _ _ _ us ws h1 h2 => match us, ws, h1, h2 with | [_], [_], _, _ => rfl⟩⟩
  have h76_eNotBalanced : Ev2 P w K mg base "NotBalanced" xNotBalanced "columns" "rows" := ⟨⟨o_xNotBalanced.1, PySem.W.mg_of X Gn g_xNotBalanced, o_xNotBalanced.2.1, o_xNotBalanced.2.2⟩, n_xNotBalanced_columns, n_xNotBalanced_rows, ⟨_, _, _, _, ok_eNotBalanced F_eNotBalanced , a_eNotBalanced, i_eNotBalanced, b_eNotBalanced, F_eNotBalanced.kbn (ps := ["self", "columns", "rows"]) 1 ["rows", "columns"] kSf2 kSf2_rel fun _ _ _ _ _ _ us ws h1 h2 => match us, ws, h1, h2 with | [_], [_, _], _, _ => rfl⟩⟩
  have h78_eOtherPlan : Ev2 P w K mg base "OtherPlan" xOtherPlan "one" "other" := ⟨⟨o_xOtherPlan.1, PySem.W.mg_of X Gn g_xOtherPlan, o_xOtherPlan.2.1, o_xOtherPlan.2.2⟩, n_xOtherPlan_one, n_xOtherPlan_other, ⟨_, _, _, _, ok_eOtherPlan F_eOtherPlan , a_eOtherPlan, i_eOtherPlan, b_eOtherPlan, F_eOtherPlan.kbn (ps := ["self", "one", "other"]) 1 ["other", "one"] kSf2 kSf2_rel fun _ _ _ _ _ _ us ws h1 h2 => match us, ws, h1, h2 with | [_], [_, _], _, _ => rfl⟩⟩
  have h80_eOtherMap : Ev2 P w K mg base "OtherMap" xOtherMap "one" "other" := ⟨⟨o_xOtherMap.1, PySem.W.mg_of X Gn g_xOtherMap, o_xOtherMap.2.1, o_xOtherMap.2.2⟩, n_xOtherMap_one, n_xOtherMap_other, ⟨_, _, _, _, ok_eOtherMap F_eOtherMap , a_eOtherMap, i_eOtherMap, b_eOtherMap, F_eOtherMap.kbn (ps := ["self", "one", "other"]) 1 ["other", "one"] kSf2 kSf2_rel fun _ _ _ _ _ _ us ws h1 h2 => match us, ws, h1, h2 with | [_], [_, _], _, _ => rfl⟩⟩
  have h82_eNoNeighbour : Ev2 P w K mg base "NoNeighbour" xNoNeighbour "value" "move" := ⟨⟨o_xNoNeighbour.1, PySem.W.mg_of X Gn g_xNoNeighbour, o_xNoNeighbour.2.1, o_xNoNeighbour.2.2⟩, n_xNoNeighbour_value, n_xNoNeighbour_move, ⟨_, _, _, _, ok_eNoNeighbour F_eNoNeighbour , a_eNoNeighbour, i_eNoNeighbour, b_eNoNeighbour, F_eNoNeighbour.kbn (ps := ["self", "value", "move"]) 1 ["move", "value"] kSf2 kSf2_rel fun _ _ _ _ _ _ us ws h1 h2 => match us, ws, h1, h2 with | [_], [_, _], _, _ => rfl⟩⟩
  have h84_eTooMany : Ev2 P w K mg base "TooMany" xTooMany "what" "limit" := ⟨⟨o_xTooMany.1, PySem.W.mg_of X Gn g_xTooMany, o_xTooMany.2.1, o_xTooMany.2.2⟩, n_xTooMany_what, n_xTooMany_limit, ⟨_, _, _, _, ok_eTooMany F_eTooMany , a_eTooMany, i_eTooMany, b_eTooMany, F_eTooMany.kbn (ps := ["self", "what", "limit"]) 1 ["limit", "what"] kSf2 kSf2_rel fun _ _ _ _ _ _ us ws h1 h2 => match us, ws, h1, h2 with | [_], [_, _], _, _ => rfl⟩⟩
  have h86_eDividedByZero : Ev0 K mg "DividedByZero" xDividedByZero := ⟨⟨o_xDividedByZero.1, PySem.W.mg_of X Gn g_xDividedByZero, o_xDividedByZero.2.1, o_xDividedByZero.2.2⟩, ev0B_ok v0_xDividedByZero⟩
  have h87_eNothingToUndo : Ev0 K mg "NothingToUndo" xNothingToUndo := ⟨⟨o_xNothingToUndo.1, PySem.W.mg_of X Gn g_xNothingToUndo, o_xNothingToUndo.2.1, o_xNothingToUndo.2.2⟩, ev0B_ok v0_xNothingToUndo⟩
  have h6_cAll : Ca P w K mg base 3 "_law_all" (sp_lall (xInvalidNumber :: xInvalidPhase :: xInvalidSign :: xInvalidPair :: xInvalidLength :: xInvalidClosed :: xInvalidAxis :: xInvalidName :: xInvalidPlace :: xInvalidKind :: xInvalidDirection :: xInvalidMove :: xInvalidEdges :: xInvalidBegins :: xInvalidEntry :: xInvalidReach :: xInvalidDistance :: xInvalidLooks :: xInvalidPlaces :: xInvalidWord :: xInvalidTarget :: xInvalidState :: xInvalidRule :: xInvalidTable :: xInvalidMap :: xInvalidPlan :: xInvalidGauge :: xInvalidClaim :: xInvalidCommand :: xInvalidRounds :: xInvalidStates :: xInvalidMoves :: xInvalidText :: xUnknownWord :: xCommandFailed :: xNotBalanced :: xOtherPlan :: xOtherMap :: xNoNeighbour :: xTooMany :: xDividedByZero :: xNothingToUndo :: [])) [] := ⟨_, _, _, _, ok_all F_all B h6_eInvalidNumber h8_eInvalidPhase h10_eInvalidSign h12_eInvalidPair h14_eInvalidLength h16_eInvalidClosed h18_eInvalidAxis h20_eInvalidName h22_eInvalidPlace h24_eInvalidKind h26_eInvalidDirection h28_eInvalidMove h30_eInvalidEdges h32_eInvalidBegins h34_eInvalidEntry h36_eInvalidReach h38_eInvalidDistance h40_eInvalidLooks h42_eInvalidPlaces h44_eInvalidWord h46_eInvalidTarget h48_eInvalidState h50_eInvalidRule h52_eInvalidTable h54_eInvalidMap h56_eInvalidPlan h58_eInvalidGauge h60_eInvalidClaim h62_eInvalidCommand h64_eInvalidRounds h66_eInvalidStates h68_eInvalidMoves h70_eInvalidText h72_eUnknownWord h74_eCommandFailed h76_eNotBalanced h78_eOtherPlan h80_eOtherMap h82_eNoNeighbour h84_eTooMany h86_eDividedByZero h87_eNothingToUndo, PySem.W.mg_of X Gn a_all, F_all.kp, b_all, .nil⟩
  have h90_cNam : Ca P w K mg base 3 "_law_named" (sp_lall (xInvalidNumber :: xInvalidPhase :: xInvalidSign :: xInvalidPair :: xInvalidLength :: xInvalidClosed :: xInvalidAxis :: xInvalidName :: xInvalidPlace :: xInvalidKind :: xInvalidDirection :: xInvalidMove :: xInvalidEdges :: xInvalidBegins :: xInvalidEntry :: xInvalidReach :: xInvalidDistance :: xInvalidLooks :: xInvalidPlaces :: xInvalidWord :: xInvalidTarget :: xInvalidState :: xInvalidRule :: xInvalidTable :: xInvalidMap :: xInvalidPlan :: xInvalidGauge :: xInvalidClaim :: xInvalidCommand :: xInvalidRounds :: xInvalidStates :: xInvalidMoves :: xInvalidText :: xUnknownWord :: xCommandFailed :: xNotBalanced :: xOtherPlan :: xOtherMap :: xNoNeighbour :: xTooMany :: xDividedByZero :: xNothingToUndo :: [])) [] := ⟨_, _, _, _, ok_named F_named B h6_eInvalidNumber h8_eInvalidPhase h10_eInvalidSign h12_eInvalidPair h14_eInvalidLength h16_eInvalidClosed h18_eInvalidAxis h20_eInvalidName h22_eInvalidPlace h24_eInvalidKind h26_eInvalidDirection h28_eInvalidMove h30_eInvalidEdges h32_eInvalidBegins h34_eInvalidEntry h36_eInvalidReach h38_eInvalidDistance h40_eInvalidLooks h42_eInvalidPlaces h44_eInvalidWord h46_eInvalidTarget h48_eInvalidState h50_eInvalidRule h52_eInvalidTable h54_eInvalidMap h56_eInvalidPlan h58_eInvalidGauge h60_eInvalidClaim h62_eInvalidCommand h64_eInvalidRounds h66_eInvalidStates h68_eInvalidMoves h70_eInvalidText h72_eUnknownWord h74_eCommandFailed h76_eNotBalanced h78_eOtherPlan h80_eOtherMap h82_eNoNeighbour h84_eTooMany h86_eDividedByZero h87_eNothingToUndo, PySem.W.mg_of X Gn a_named, F_named.kp, b_named, .nil⟩
  have h92_cKep : Ca P w K mg base 3 "_law_kept" (sp_lkept K (xInvalidNumber :: xInvalidPhase :: xInvalidSign :: xInvalidPair :: xInvalidLength :: xInvalidClosed :: xInvalidAxis :: xInvalidName :: xInvalidPlace :: xInvalidKind :: xInvalidDirection :: xInvalidMove :: xInvalidEdges :: xInvalidBegins :: xInvalidEntry :: xInvalidReach :: xInvalidDistance :: xInvalidLooks :: xInvalidPlaces :: xInvalidWord :: xInvalidTarget :: xInvalidState :: xInvalidRule :: xInvalidTable :: xInvalidMap :: xInvalidPlan :: xInvalidGauge :: xInvalidClaim :: xInvalidCommand :: xInvalidRounds :: xInvalidStates :: xInvalidMoves :: xInvalidText :: xUnknownWord :: xCommandFailed :: xNotBalanced :: xOtherPlan :: xOtherMap :: xNoNeighbour :: xTooMany :: xDividedByZero :: xNothingToUndo :: [])) [] := ⟨_, _, _, _, ok_kept F_kept B, PySem.W.mg_of X Gn a_kept, F_kept.kp, b_kept, .nil⟩
  have h94_cFlg : Ca P w K mg base 3 "_law_flags" (sp_lflags K (xInvalidNumber :: xInvalidPhase :: xInvalidSign :: xInvalidPair :: xInvalidLength :: xInvalidClosed :: xInvalidAxis :: xInvalidName :: xInvalidPlace :: xInvalidKind :: xInvalidDirection :: xInvalidMove :: xInvalidEdges :: xInvalidBegins :: xInvalidEntry :: xInvalidReach :: xInvalidDistance :: xInvalidLooks :: xInvalidPlaces :: xInvalidWord :: xInvalidTarget :: xInvalidState :: xInvalidRule :: xInvalidTable :: xInvalidMap :: xInvalidPlan :: xInvalidGauge :: xInvalidClaim :: xInvalidCommand :: xInvalidRounds :: xInvalidStates :: xInvalidMoves :: xInvalidText :: xUnknownWord :: xCommandFailed :: xNotBalanced :: xOtherPlan :: xOtherMap :: xNoNeighbour :: xTooMany :: xDividedByZero :: xNothingToUndo :: [])) [] := ⟨_, _, _, _, ok_flags F_flags B h6_eInvalidNumber h8_eInvalidPhase h10_eInvalidSign h12_eInvalidPair h14_eInvalidLength h16_eInvalidClosed h18_eInvalidAxis h20_eInvalidName h22_eInvalidPlace h24_eInvalidKind h26_eInvalidDirection h28_eInvalidMove h30_eInvalidEdges h32_eInvalidBegins h34_eInvalidEntry h36_eInvalidReach h38_eInvalidDistance h40_eInvalidLooks h42_eInvalidPlaces h44_eInvalidWord h46_eInvalidTarget h48_eInvalidState h50_eInvalidRule h52_eInvalidTable h54_eInvalidMap h56_eInvalidPlan h58_eInvalidGauge h60_eInvalidClaim h62_eInvalidCommand h64_eInvalidRounds h66_eInvalidStates h68_eInvalidMoves h70_eInvalidText h72_eUnknownWord h74_eCommandFailed h76_eNotBalanced h78_eOtherPlan h80_eOtherMap h82_eNoNeighbour h84_eTooMany h86_eDividedByZero h87_eNothingToUndo, PySem.W.mg_of X Gn a_flags, F_flags.kp, b_flags, .nil⟩
  have h96_eCellError : Ev0 K mg "CellError" xCellError := ⟨⟨o_xCellError.1, PySem.W.mg_of X Gn g_xCellError, o_xCellError.2.1, o_xCellError.2.2⟩, ev0B_ok v0_xCellError⟩
  have h97_eMissingError : Ev0 K mg "MissingError" xMissingError := ⟨⟨o_xMissingError.1, PySem.W.mg_of X Gn g_xMissingError, o_xMissingError.2.1, o_xMissingError.2.2⟩, ev0B_ok v0_xMissingError⟩
  have h98_eStateError : Ev0 K mg "StateError" xStateError := ⟨⟨o_xStateError.1, PySem.W.mg_of X Gn g_xStateError, o_xStateError.2.1, o_xStateError.2.2⟩, ev0B_ok v0_xStateError⟩
  have h99_eLimitError : Ev0 K mg "LimitError" xLimitError := ⟨⟨o_xLimitError.1, PySem.W.mg_of X Gn g_xLimitError, o_xLimitError.2.1, o_xLimitError.2.2⟩, ev0B_ok v0_xLimitError⟩
  have h96_cGrs : Ca P w K mg base 3 "_law_grounds" (sp_lgrounds K [xCellError, xMissingError, xStateError, xLimitError]) [] := ⟨_, _, _, _, ok_grounds F_grounds B BE BE2 h96_eCellError h97_eMissingError h98_eStateError h99_eLimitError, PySem.W.mg_of X Gn a_grounds, F_grounds.kp, b_grounds, .nil⟩
  have h102_cGrd : Ca P w K mg base 1 "_law_ground" sp_lground [] := ⟨_, _, _, _, ok_ground F_ground B, PySem.W.mg_of X Gn a_ground, F_ground.kp, b_ground, .nil⟩
  have h104_cWid : Ca P w K mg base 1 "_law_width" sp_lwidth [] := ⟨_, _, _, _, ok_width F_width B, PySem.W.mg_of X Gn a_width, F_width.kp, b_width, .nil⟩
  have h106_cDue : Cg P w K mg base 2 "_law_due_grounds" ["_law_ground_here"] sp_ldueg [] := ⟨_, _, _, ok_dueg F_dueg B, PySem.W.mg_of X Gn a_dueg, F_dueg.kp, b_dueg, .nil⟩
  have h2_cRight : Cg P w K mg base 8 "_law_right" ["_law_pot_here"] sp_right [] := ⟨_, _, _, ok_right F_right B SM h2_cPk h6_cAll h90_cNam h92_cKep h94_cFlg h96_cGrs h102_cGrd h104_cWid h106_cDue h6_eInvalidNumber h8_eInvalidPhase h10_eInvalidSign h12_eInvalidPair h14_eInvalidLength h16_eInvalidClosed h18_eInvalidAxis h20_eInvalidName h22_eInvalidPlace h24_eInvalidKind h26_eInvalidDirection h28_eInvalidMove h30_eInvalidEdges h32_eInvalidBegins h34_eInvalidEntry h36_eInvalidReach h38_eInvalidDistance h40_eInvalidLooks h42_eInvalidPlaces h44_eInvalidWord h46_eInvalidTarget h48_eInvalidState h50_eInvalidRule h52_eInvalidTable h54_eInvalidMap h56_eInvalidPlan h58_eInvalidGauge h60_eInvalidClaim h62_eInvalidCommand h64_eInvalidRounds h66_eInvalidStates h68_eInvalidMoves h70_eInvalidText h72_eUnknownWord h74_eCommandFailed h76_eNotBalanced h78_eOtherPlan h80_eOtherMap h82_eNoNeighbour h84_eTooMany h86_eDividedByZero h87_eNothingToUndo h96_eCellError h97_eMissingError h98_eStateError h99_eLimitError xb126, PySem.W.mg_of X Gn a_right, F_right.kp, b_right, .nil⟩
  exact ok_law F_law B h0_cPot h2_cRight
end T
set_option Elab.async false
set_option maxRecDepth 100000
set_option maxHeartbeats 4000000
namespace T
open PySem L2 Mv
open He (ga ma)
open T0 hiding top
theorem facts {P : Program} {w : World} {K : PySem.W.Frag} {h : Heap} {mg : Str → Option Value} {fa : Addr} (X : K.In h) (Gn : h.Ns mainGlobals mg) (hfa : mg "law" = some (.ref fa)) (c : SaM fcs dfs K) :
    ∃ fd : FuncData, (∀ (s : Shared) (v : Value), BindsTo s fd ⟨[v], []⟩ [("_law_script", v)]) ∧ ∀ base : Heap, K.In base → base.Ns mainGlobals mg → FnG P w K mg base 9 fa fd ["_law_script"] (sp_law K) := by
  obtain ⟨fd_law, F_law⟩ := c.def_ 0 (d := d_law) rfl
  obtain ⟨fd_pot, F_pot⟩ := c.def_ 1 (d := d_pot) rfl
  obtain ⟨fd_right, F_right⟩ := c.def_ 2 (d := d_right) rfl
  obtain ⟨fd_pick, F_pick⟩ := c.def_ 3 (d := d_pick) rfl
  obtain ⟨fd_draw, F_draw⟩ := c.def_ 4 (d := d_draw) rfl
  obtain ⟨fd_all, F_all⟩ := c.def_ 5 (d := d_all) rfl
  obtain ⟨fd_eInvalidNumber, F_eInvalidNumber⟩ := c.def_ 6 (d := d_eInvalidNumber) rfl
  obtain ⟨fd_eInvalidPhase, F_eInvalidPhase⟩ := c.def_ 7 (d := d_eInvalidPhase) rfl
  obtain ⟨fd_eInvalidSign, F_eInvalidSign⟩ := c.def_ 8 (d := d_eInvalidSign) rfl
  obtain ⟨fd_eInvalidPair, F_eInvalidPair⟩ := c.def_ 9 (d := d_eInvalidPair) rfl
  obtain ⟨fd_eInvalidLength, F_eInvalidLength⟩ := c.def_ 10 (d := d_eInvalidLength) rfl
  obtain ⟨fd_eInvalidClosed, F_eInvalidClosed⟩ := c.def_ 11 (d := d_eInvalidClosed) rfl
  obtain ⟨fd_eInvalidAxis, F_eInvalidAxis⟩ := c.def_ 12 (d := d_eInvalidAxis) rfl
  obtain ⟨fd_eInvalidName, F_eInvalidName⟩ := c.def_ 13 (d := d_eInvalidName) rfl
  obtain ⟨fd_eInvalidPlace, F_eInvalidPlace⟩ := c.def_ 14 (d := d_eInvalidPlace) rfl
  obtain ⟨fd_eInvalidKind, F_eInvalidKind⟩ := c.def_ 15 (d := d_eInvalidKind) rfl
  obtain ⟨fd_eInvalidDirection, F_eInvalidDirection⟩ := c.def_ 16 (d := d_eInvalidDirection) rfl
  obtain ⟨fd_eInvalidMove, F_eInvalidMove⟩ := c.def_ 17 (d := d_eInvalidMove) rfl
  obtain ⟨fd_eInvalidEdges, F_eInvalidEdges⟩ := c.def_ 18 (d := d_eInvalidEdges) rfl
  obtain ⟨fd_eInvalidBegins, F_eInvalidBegins⟩ := c.def_ 19 (d := d_eInvalidBegins) rfl
  obtain ⟨fd_eInvalidEntry, F_eInvalidEntry⟩ := c.def_ 20 (d := d_eInvalidEntry) rfl
  obtain ⟨fd_eInvalidReach, F_eInvalidReach⟩ := c.def_ 21 (d := d_eInvalidReach) rfl
  obtain ⟨fd_eInvalidDistance, F_eInvalidDistance⟩ := c.def_ 22 (d := d_eInvalidDistance) rfl
  obtain ⟨fd_eInvalidLooks, F_eInvalidLooks⟩ := c.def_ 23 (d := d_eInvalidLooks) rfl
  obtain ⟨fd_eInvalidPlaces, F_eInvalidPlaces⟩ := c.def_ 24 (d := d_eInvalidPlaces) rfl
  obtain ⟨fd_eInvalidWord, F_eInvalidWord⟩ := c.def_ 25 (d := d_eInvalidWord) rfl
  obtain ⟨fd_eInvalidTarget, F_eInvalidTarget⟩ := c.def_ 26 (d := d_eInvalidTarget) rfl
  obtain ⟨fd_eInvalidState, F_eInvalidState⟩ := c.def_ 27 (d := d_eInvalidState) rfl
  obtain ⟨fd_eInvalidRule, F_eInvalidRule⟩ := c.def_ 28 (d := d_eInvalidRule) rfl
  obtain ⟨fd_eInvalidTable, F_eInvalidTable⟩ := c.def_ 29 (d := d_eInvalidTable) rfl
  obtain ⟨fd_eInvalidMap, F_eInvalidMap⟩ := c.def_ 30 (d := d_eInvalidMap) rfl
  obtain ⟨fd_eInvalidPlan, F_eInvalidPlan⟩ := c.def_ 31 (d := d_eInvalidPlan) rfl
  obtain ⟨fd_eInvalidGauge, F_eInvalidGauge⟩ := c.def_ 32 (d := d_eInvalidGauge) rfl
  obtain ⟨fd_eInvalidClaim, F_eInvalidClaim⟩ := c.def_ 33 (d := d_eInvalidClaim) rfl
  obtain ⟨fd_eInvalidCommand, F_eInvalidCommand⟩ := c.def_ 34 (d := d_eInvalidCommand) rfl
  obtain ⟨fd_eInvalidRounds, F_eInvalidRounds⟩ := c.def_ 35 (d := d_eInvalidRounds) rfl
  obtain ⟨fd_eInvalidStates, F_eInvalidStates⟩ := c.def_ 36 (d := d_eInvalidStates) rfl
  obtain ⟨fd_eInvalidMoves, F_eInvalidMoves⟩ := c.def_ 37 (d := d_eInvalidMoves) rfl
  obtain ⟨fd_eInvalidText, F_eInvalidText⟩ := c.def_ 38 (d := d_eInvalidText) rfl
  obtain ⟨fd_eUnknownWord, F_eUnknownWord⟩ := c.def_ 39 (d := d_eUnknownWord) rfl
  obtain ⟨fd_eCommandFailed, F_eCommandFailed⟩ := c.def_ 40 (d := d_eCommandFailed) rfl
  obtain ⟨fd_eNotBalanced, F_eNotBalanced⟩ := c.def_ 41 (d := d_eNotBalanced) rfl
  obtain ⟨fd_eOtherPlan, F_eOtherPlan⟩ := c.def_ 42 (d := d_eOtherPlan) rfl
  obtain ⟨fd_eOtherMap, F_eOtherMap⟩ := c.def_ 43 (d := d_eOtherMap) rfl
  obtain ⟨fd_eNoNeighbour, F_eNoNeighbour⟩ := c.def_ 44 (d := d_eNoNeighbour) rfl
  obtain ⟨fd_eTooMany, F_eTooMany⟩ := c.def_ 45 (d := d_eTooMany) rfl
  obtain ⟨fd_named, F_named⟩ := c.def_ 46 (d := d_named) rfl
  obtain ⟨fd_kept, F_kept⟩ := c.def_ 47 (d := d_kept) rfl
  obtain ⟨fd_flags, F_flags⟩ := c.def_ 48 (d := d_flags) rfl
  obtain ⟨fd_grounds, F_grounds⟩ := c.def_ 49 (d := d_grounds) rfl
  obtain ⟨fd_ground, F_ground⟩ := c.def_ 50 (d := d_ground) rfl
  obtain ⟨fd_width, F_width⟩ := c.def_ 51 (d := d_width) rfl
  obtain ⟨fd_dueg, F_dueg⟩ := c.def_ 52 (d := d_dueg) rfl
  exact all_mk (P := P) (w := w) X Gn hfa (xInvalidNumber := (ga K "InvalidNumber")) (xInvalidPhase := (ga K "InvalidPhase")) (xInvalidSign := (ga K "InvalidSign")) (xInvalidPair := (ga K "InvalidPair")) (xInvalidLength := (ga K "InvalidLength")) (xInvalidClosed := (ga K "InvalidClosed")) (xInvalidAxis := (ga K "InvalidAxis")) (xInvalidName := (ga K "InvalidName")) (xInvalidPlace := (ga K "InvalidPlace")) (xInvalidKind := (ga K "InvalidKind")) (xInvalidDirection := (ga K "InvalidDirection")) (xInvalidMove := (ga K "InvalidMove")) (xInvalidEdges := (ga K "InvalidEdges")) (xInvalidBegins := (ga K "InvalidBegins")) (xInvalidEntry := (ga K "InvalidEntry")) (xInvalidReach := (ga K "InvalidReach")) (xInvalidDistance := (ga K "InvalidDistance")) (xInvalidLooks := (ga K "InvalidLooks")) (xInvalidPlaces := (ga K "InvalidPlaces")) (xInvalidWord := (ga K "InvalidWord")) (xInvalidTarget := (ga K "InvalidTarget")) (xInvalidState := (ga K "InvalidState")) (xInvalidRule := (ga K "InvalidRule")) (xInvalidTable := (ga K "InvalidTable")) (xInvalidMap := (ga K "InvalidMap")) (xInvalidPlan := (ga K "InvalidPlan")) (xInvalidGauge := (ga K "InvalidGauge")) (xInvalidClaim := (ga K "InvalidClaim")) (xInvalidCommand := (ga K "InvalidCommand")) (xInvalidRounds := (ga K "InvalidRounds")) (xInvalidStates := (ga K "InvalidStates")) (xInvalidMoves := (ga K "InvalidMoves")) (xInvalidText := (ga K "InvalidText")) (xUnknownWord := (ga K "UnknownWord")) (xCommandFailed := (ga K "CommandFailed")) (xNotBalanced := (ga K "NotBalanced")) (xOtherPlan := (ga K "OtherPlan")) (xOtherMap := (ga K "OtherMap")) (xNoNeighbour := (ga K "NoNeighbour")) (xTooMany := (ga K "TooMany")) (xDividedByZero := (ga K "DividedByZero")) (xNothingToUndo := (ga K "NothingToUndo")) (xCellError := (ga K "CellError")) (xMissingError := (ga K "MissingError")) (xStateError := (ga K "StateError")) (xLimitError := (ga K "LimitError")) (f_law := (ga K "law")) (f_pot := (ga K "_law_pot")) (f_right := (ga K "_law_right")) (f_pick := (ga K "_law_pick")) (f_draw := (ga K "_law_draw")) (f_all := (ga K "_law_all")) (f_eInvalidNumber := (ma K (ga K "InvalidNumber") "__init__")) (f_eInvalidPhase := (ma K (ga K "InvalidPhase") "__init__")) (f_eInvalidSign := (ma K (ga K "InvalidSign") "__init__")) (f_eInvalidPair := (ma K (ga K "InvalidPair") "__init__")) (f_eInvalidLength := (ma K (ga K "InvalidLength") "__init__")) (f_eInvalidClosed := (ma K (ga K "InvalidClosed") "__init__")) (f_eInvalidAxis := (ma K (ga K "InvalidAxis") "__init__")) (f_eInvalidName := (ma K (ga K "InvalidName") "__init__")) (f_eInvalidPlace := (ma K (ga K "InvalidPlace") "__init__")) (f_eInvalidKind := (ma K (ga K "InvalidKind") "__init__")) (f_eInvalidDirection := (ma K (ga K "InvalidDirection") "__init__")) (f_eInvalidMove := (ma K (ga K "InvalidMove") "__init__")) (f_eInvalidEdges := (ma K (ga K "InvalidEdges") "__init__")) (f_eInvalidBegins := (ma K (ga K "InvalidBegins") "__init__")) (f_eInvalidEntry := (ma K (ga K "InvalidEntry") "__init__")) (f_eInvalidReach := (ma K (ga K "InvalidReach") "__init__")) (f_eInvalidDistance := (ma K (ga K "InvalidDistance") "__init__")) (f_eInvalidLooks := (ma K (ga K "InvalidLooks") "__init__")) (f_eInvalidPlaces := (ma K (ga K "InvalidPlaces") "__init__")) (f_eInvalidWord := (ma K (ga K "InvalidWord") "__init__")) (f_eInvalidTarget := (ma K (ga K "InvalidTarget") "__init__")) (f_eInvalidState := (ma K (ga K "InvalidState") "__init__")) (f_eInvalidRule := (ma K (ga K "InvalidRule") "__init__")) (f_eInvalidTable := (ma K (ga K "InvalidTable") "__init__")) (f_eInvalidMap := (ma K (ga K "InvalidMap") "__init__")) (f_eInvalidPlan := (ma K (ga K "InvalidPlan") "__init__")) (f_eInvalidGauge := (ma K (ga K "InvalidGauge") "__init__")) (f_eInvalidClaim := (ma K (ga K "InvalidClaim") "__init__")) (f_eInvalidCommand := (ma K (ga K "InvalidCommand") "__init__")) (f_eInvalidRounds := (ma K (ga K "InvalidRounds") "__init__")) (f_eInvalidStates := (ma K (ga K "InvalidStates") "__init__")) (f_eInvalidMoves := (ma K (ga K "InvalidMoves") "__init__")) (f_eInvalidText := (ma K (ga K "InvalidText") "__init__")) (f_eUnknownWord := (ma K (ga K "UnknownWord") "__init__")) (f_eCommandFailed := (ma K (ga K "CommandFailed") "__init__")) (f_eNotBalanced := (ma K (ga K "NotBalanced") "__init__")) (f_eOtherPlan := (ma K (ga K "OtherPlan") "__init__")) (f_eOtherMap := (ma K (ga K "OtherMap") "__init__")) (f_eNoNeighbour := (ma K (ga K "NoNeighbour") "__init__")) (f_eTooMany := (ma K (ga K "TooMany") "__init__")) (f_named := (ga K "_law_named")) (f_kept := (ga K "_law_kept")) (f_flags := (ga K "_law_flags")) (f_grounds := (ga K "_law_grounds")) (f_ground := (ga K "_law_ground")) (f_width := (ga K "_law_width")) (f_dueg := (ga K "_law_due_grounds"))
    (of_decide_eq_true (p := PySem.W.specialIn K (.builtin "object.__class__") "__get__" = some (some (.builtin "getset_descriptor.__get__"))) (c.fact 0 (f := q0) rfl))
    (of_decide_eq_true (p := PySem.W.takesIn K (.builtin "object.__class__") = some true) (c.fact 1 (f := q1) rfl))
    (of_decide_eq_true (p := PySem.W.nsIn K mainGlobals "len" = some none) (c.fact 2 (f := q2) rfl))
    (of_decide_eq_true (p := PySem.W.nsIn K mainGlobals "abs" = some none) (c.fact 3 (f := q3) rfl))
    (of_decide_eq_true (p := PySem.W.nsIn K mainGlobals "max" = some none) (c.fact 4 (f := q4) rfl))
    (of_decide_eq_true (p := PySem.W.nsIn K mainGlobals "min" = some none) (c.fact 5 (f := q5) rfl))
    (of_decide_eq_true (p := PySem.W.nsIn K mainGlobals "int" = some none) (c.fact 6 (f := q6) rfl))
    (of_decide_eq_true (p := PySem.W.nsIn K mainGlobals "bool" = some none) (c.fact 7 (f := q7) rfl))
    (of_decide_eq_true (p := PySem.W.nsIn K mainGlobals "str" = some none) (c.fact 8 (f := q8) rfl))
    (of_decide_eq_true (p := PySem.W.nsIn K mainGlobals "repr" = some none) (c.fact 9 (f := q9) rfl))
    (of_decide_eq_true (p := PySem.W.nsIn K mainGlobals "all" = some none) (c.fact 10 (f := q10) rfl))
    (of_decide_eq_true (p := PySem.W.nsIn K mainGlobals "any" = some none) (c.fact 11 (f := q11) rfl))
    (of_decide_eq_true (p := PySem.W.nsIn K mainGlobals "range" = some none) (c.fact 12 (f := q12) rfl))
    (of_decide_eq_true (p := PySem.W.nsIn K mainGlobals "divmod" = some none) (c.fact 13 (f := q13) rfl))
    (of_decide_eq_true (p := PySem.W.nsIn K mainGlobals "isinstance" = some none) (c.fact 14 (f := q14) rfl))
    (of_decide_eq_true (p := PySem.W.nsIn K mainGlobals "list" = some none) (c.fact 15 (f := q15) rfl))
    (of_decide_eq_true (p := PySem.W.nsIn K mainGlobals "tuple" = some none) (c.fact 16 (f := q16) rfl))
    (of_decide_eq_true (p := PySem.W.nsIn K mainGlobals "dict" = some none) (c.fact 17 (f := q17) rfl))
    (of_decide_eq_true (p := PySem.W.nsIn K mainGlobals "enumerate" = some none) (c.fact 18 (f := q18) rfl))
    (of_decide_eq_true (p := PySem.W.nsIn K mainGlobals "zip" = some none) (c.fact 19 (f := q19) rfl))
    (of_decide_eq_true (p := PySem.W.nsIn K mainGlobals "sorted" = some none) (c.fact 20 (f := q20) rfl))
    (of_decide_eq_true (p := PySem.W.nsIn K mainGlobals "sum" = some none) (c.fact 21 (f := q21) rfl))
    (of_decide_eq_true (p := PySem.W.nsIn K mainGlobals "type" = some none) (c.fact 22 (f := q22) rfl))
    (smB_ok (c.fact 23 (f := q23) rfl))
    (of_decide_eq_true (p := PySem.W.nsIn K mainGlobals "InvalidNumber" = some (some (.ref (ga K "InvalidNumber")))) (c.fact 24 (f := q24) rfl))
    (exeB_ok (c.fact 25 (f := q25) rfl))
    (of_decide_eq_true (p := PySem.W.findIn K (.ref (ga K "InvalidNumber")) "value" = some none) (c.fact 26 (f := q26) rfl))
    (of_decide_eq_true (p := PySem.W.nsIn K mainGlobals "InvalidPhase" = some (some (.ref (ga K "InvalidPhase")))) (c.fact 27 (f := q27) rfl))
    (exeB_ok (c.fact 28 (f := q28) rfl))
    (of_decide_eq_true (p := PySem.W.findIn K (.ref (ga K "InvalidPhase")) "value" = some none) (c.fact 29 (f := q29) rfl))
    (of_decide_eq_true (p := PySem.W.nsIn K mainGlobals "InvalidSign" = some (some (.ref (ga K "InvalidSign")))) (c.fact 30 (f := q30) rfl))
    (exeB_ok (c.fact 31 (f := q31) rfl))
    (of_decide_eq_true (p := PySem.W.findIn K (.ref (ga K "InvalidSign")) "value" = some none) (c.fact 32 (f := q32) rfl))
    (of_decide_eq_true (p := PySem.W.nsIn K mainGlobals "InvalidPair" = some (some (.ref (ga K "InvalidPair")))) (c.fact 33 (f := q33) rfl))
    (exeB_ok (c.fact 34 (f := q34) rfl))
    (of_decide_eq_true (p := PySem.W.findIn K (.ref (ga K "InvalidPair")) "value" = some none) (c.fact 35 (f := q35) rfl))
    (of_decide_eq_true (p := PySem.W.nsIn K mainGlobals "InvalidLength" = some (some (.ref (ga K "InvalidLength")))) (c.fact 36 (f := q36) rfl))
    (exeB_ok (c.fact 37 (f := q37) rfl))
    (of_decide_eq_true (p := PySem.W.findIn K (.ref (ga K "InvalidLength")) "value" = some none) (c.fact 38 (f := q38) rfl))
    (of_decide_eq_true (p := PySem.W.nsIn K mainGlobals "InvalidClosed" = some (some (.ref (ga K "InvalidClosed")))) (c.fact 39 (f := q39) rfl))
    (exeB_ok (c.fact 40 (f := q40) rfl))
    (of_decide_eq_true (p := PySem.W.findIn K (.ref (ga K "InvalidClosed")) "value" = some none) (c.fact 41 (f := q41) rfl))
    (of_decide_eq_true (p := PySem.W.nsIn K mainGlobals "InvalidAxis" = some (some (.ref (ga K "InvalidAxis")))) (c.fact 42 (f := q42) rfl))
    (exeB_ok (c.fact 43 (f := q43) rfl))
    (of_decide_eq_true (p := PySem.W.findIn K (.ref (ga K "InvalidAxis")) "value" = some none) (c.fact 44 (f := q44) rfl))
    (of_decide_eq_true (p := PySem.W.nsIn K mainGlobals "InvalidName" = some (some (.ref (ga K "InvalidName")))) (c.fact 45 (f := q45) rfl))
    (exeB_ok (c.fact 46 (f := q46) rfl))
    (of_decide_eq_true (p := PySem.W.findIn K (.ref (ga K "InvalidName")) "value" = some none) (c.fact 47 (f := q47) rfl))
    (of_decide_eq_true (p := PySem.W.nsIn K mainGlobals "InvalidPlace" = some (some (.ref (ga K "InvalidPlace")))) (c.fact 48 (f := q48) rfl))
    (exeB_ok (c.fact 49 (f := q49) rfl))
    (of_decide_eq_true (p := PySem.W.findIn K (.ref (ga K "InvalidPlace")) "value" = some none) (c.fact 50 (f := q50) rfl))
    (of_decide_eq_true (p := PySem.W.nsIn K mainGlobals "InvalidKind" = some (some (.ref (ga K "InvalidKind")))) (c.fact 51 (f := q51) rfl))
    (exeB_ok (c.fact 52 (f := q52) rfl))
    (of_decide_eq_true (p := PySem.W.findIn K (.ref (ga K "InvalidKind")) "value" = some none) (c.fact 53 (f := q53) rfl))
    (of_decide_eq_true (p := PySem.W.nsIn K mainGlobals "InvalidDirection" = some (some (.ref (ga K "InvalidDirection")))) (c.fact 54 (f := q54) rfl))
    (exeB_ok (c.fact 55 (f := q55) rfl))
    (of_decide_eq_true (p := PySem.W.findIn K (.ref (ga K "InvalidDirection")) "value" = some none) (c.fact 56 (f := q56) rfl))
    (of_decide_eq_true (p := PySem.W.nsIn K mainGlobals "InvalidMove" = some (some (.ref (ga K "InvalidMove")))) (c.fact 57 (f := q57) rfl))
    (exeB_ok (c.fact 58 (f := q58) rfl))
    (of_decide_eq_true (p := PySem.W.findIn K (.ref (ga K "InvalidMove")) "value" = some none) (c.fact 59 (f := q59) rfl))
    (of_decide_eq_true (p := PySem.W.nsIn K mainGlobals "InvalidEdges" = some (some (.ref (ga K "InvalidEdges")))) (c.fact 60 (f := q60) rfl))
    (exeB_ok (c.fact 61 (f := q61) rfl))
    (of_decide_eq_true (p := PySem.W.findIn K (.ref (ga K "InvalidEdges")) "value" = some none) (c.fact 62 (f := q62) rfl))
    (of_decide_eq_true (p := PySem.W.nsIn K mainGlobals "InvalidBegins" = some (some (.ref (ga K "InvalidBegins")))) (c.fact 63 (f := q63) rfl))
    (exeB_ok (c.fact 64 (f := q64) rfl))
    (of_decide_eq_true (p := PySem.W.findIn K (.ref (ga K "InvalidBegins")) "value" = some none) (c.fact 65 (f := q65) rfl))
    (of_decide_eq_true (p := PySem.W.nsIn K mainGlobals "InvalidEntry" = some (some (.ref (ga K "InvalidEntry")))) (c.fact 66 (f := q66) rfl))
    (exeB_ok (c.fact 67 (f := q67) rfl))
    (of_decide_eq_true (p := PySem.W.findIn K (.ref (ga K "InvalidEntry")) "value" = some none) (c.fact 68 (f := q68) rfl))
    (of_decide_eq_true (p := PySem.W.nsIn K mainGlobals "InvalidReach" = some (some (.ref (ga K "InvalidReach")))) (c.fact 69 (f := q69) rfl))
    (exeB_ok (c.fact 70 (f := q70) rfl))
    (of_decide_eq_true (p := PySem.W.findIn K (.ref (ga K "InvalidReach")) "value" = some none) (c.fact 71 (f := q71) rfl))
    (of_decide_eq_true (p := PySem.W.nsIn K mainGlobals "InvalidDistance" = some (some (.ref (ga K "InvalidDistance")))) (c.fact 72 (f := q72) rfl))
    (exeB_ok (c.fact 73 (f := q73) rfl))
    (of_decide_eq_true (p := PySem.W.findIn K (.ref (ga K "InvalidDistance")) "value" = some none) (c.fact 74 (f := q74) rfl))
    (of_decide_eq_true (p := PySem.W.nsIn K mainGlobals "InvalidLooks" = some (some (.ref (ga K "InvalidLooks")))) (c.fact 75 (f := q75) rfl))
    (exeB_ok (c.fact 76 (f := q76) rfl))
    (of_decide_eq_true (p := PySem.W.findIn K (.ref (ga K "InvalidLooks")) "value" = some none) (c.fact 77 (f := q77) rfl))
    (of_decide_eq_true (p := PySem.W.nsIn K mainGlobals "InvalidPlaces" = some (some (.ref (ga K "InvalidPlaces")))) (c.fact 78 (f := q78) rfl))
    (exeB_ok (c.fact 79 (f := q79) rfl))
    (of_decide_eq_true (p := PySem.W.findIn K (.ref (ga K "InvalidPlaces")) "value" = some none) (c.fact 80 (f := q80) rfl))
    (of_decide_eq_true (p := PySem.W.nsIn K mainGlobals "InvalidWord" = some (some (.ref (ga K "InvalidWord")))) (c.fact 81 (f := q81) rfl))
    (exeB_ok (c.fact 82 (f := q82) rfl))
    (of_decide_eq_true (p := PySem.W.findIn K (.ref (ga K "InvalidWord")) "value" = some none) (c.fact 83 (f := q83) rfl))
    (of_decide_eq_true (p := PySem.W.nsIn K mainGlobals "InvalidTarget" = some (some (.ref (ga K "InvalidTarget")))) (c.fact 84 (f := q84) rfl))
    (exeB_ok (c.fact 85 (f := q85) rfl))
    (of_decide_eq_true (p := PySem.W.findIn K (.ref (ga K "InvalidTarget")) "value" = some none) (c.fact 86 (f := q86) rfl))
    (of_decide_eq_true (p := PySem.W.nsIn K mainGlobals "InvalidState" = some (some (.ref (ga K "InvalidState")))) (c.fact 87 (f := q87) rfl))
    (exeB_ok (c.fact 88 (f := q88) rfl))
    (of_decide_eq_true (p := PySem.W.findIn K (.ref (ga K "InvalidState")) "value" = some none) (c.fact 89 (f := q89) rfl))
    (of_decide_eq_true (p := PySem.W.nsIn K mainGlobals "InvalidRule" = some (some (.ref (ga K "InvalidRule")))) (c.fact 90 (f := q90) rfl))
    (exeB_ok (c.fact 91 (f := q91) rfl))
    (of_decide_eq_true (p := PySem.W.findIn K (.ref (ga K "InvalidRule")) "value" = some none) (c.fact 92 (f := q92) rfl))
    (of_decide_eq_true (p := PySem.W.nsIn K mainGlobals "InvalidTable" = some (some (.ref (ga K "InvalidTable")))) (c.fact 93 (f := q93) rfl))
    (exeB_ok (c.fact 94 (f := q94) rfl))
    (of_decide_eq_true (p := PySem.W.findIn K (.ref (ga K "InvalidTable")) "value" = some none) (c.fact 95 (f := q95) rfl))
    (of_decide_eq_true (p := PySem.W.nsIn K mainGlobals "InvalidMap" = some (some (.ref (ga K "InvalidMap")))) (c.fact 96 (f := q96) rfl))
    (exeB_ok (c.fact 97 (f := q97) rfl))
    (of_decide_eq_true (p := PySem.W.findIn K (.ref (ga K "InvalidMap")) "value" = some none) (c.fact 98 (f := q98) rfl))
    (of_decide_eq_true (p := PySem.W.nsIn K mainGlobals "InvalidPlan" = some (some (.ref (ga K "InvalidPlan")))) (c.fact 99 (f := q99) rfl))
    (exeB_ok (c.fact 100 (f := q100) rfl))
    (of_decide_eq_true (p := PySem.W.findIn K (.ref (ga K "InvalidPlan")) "value" = some none) (c.fact 101 (f := q101) rfl))
    (of_decide_eq_true (p := PySem.W.nsIn K mainGlobals "InvalidGauge" = some (some (.ref (ga K "InvalidGauge")))) (c.fact 102 (f := q102) rfl))
    (exeB_ok (c.fact 103 (f := q103) rfl))
    (of_decide_eq_true (p := PySem.W.findIn K (.ref (ga K "InvalidGauge")) "value" = some none) (c.fact 104 (f := q104) rfl))
    (of_decide_eq_true (p := PySem.W.nsIn K mainGlobals "InvalidClaim" = some (some (.ref (ga K "InvalidClaim")))) (c.fact 105 (f := q105) rfl))
    (exeB_ok (c.fact 106 (f := q106) rfl))
    (of_decide_eq_true (p := PySem.W.findIn K (.ref (ga K "InvalidClaim")) "value" = some none) (c.fact 107 (f := q107) rfl))
    (of_decide_eq_true (p := PySem.W.nsIn K mainGlobals "InvalidCommand" = some (some (.ref (ga K "InvalidCommand")))) (c.fact 108 (f := q108) rfl))
    (exeB_ok (c.fact 109 (f := q109) rfl))
    (of_decide_eq_true (p := PySem.W.findIn K (.ref (ga K "InvalidCommand")) "value" = some none) (c.fact 110 (f := q110) rfl))
    (of_decide_eq_true (p := PySem.W.nsIn K mainGlobals "InvalidRounds" = some (some (.ref (ga K "InvalidRounds")))) (c.fact 111 (f := q111) rfl))
    (exeB_ok (c.fact 112 (f := q112) rfl))
    (of_decide_eq_true (p := PySem.W.findIn K (.ref (ga K "InvalidRounds")) "position" = some none) (c.fact 113 (f := q113) rfl))
    (of_decide_eq_true (p := PySem.W.nsIn K mainGlobals "InvalidStates" = some (some (.ref (ga K "InvalidStates")))) (c.fact 114 (f := q114) rfl))
    (exeB_ok (c.fact 115 (f := q115) rfl))
    (of_decide_eq_true (p := PySem.W.findIn K (.ref (ga K "InvalidStates")) "position" = some none) (c.fact 116 (f := q116) rfl))
    (of_decide_eq_true (p := PySem.W.nsIn K mainGlobals "InvalidMoves" = some (some (.ref (ga K "InvalidMoves")))) (c.fact 117 (f := q117) rfl))
    (exeB_ok (c.fact 118 (f := q118) rfl))
    (of_decide_eq_true (p := PySem.W.findIn K (.ref (ga K "InvalidMoves")) "position" = some none) (c.fact 119 (f := q119) rfl))
    (of_decide_eq_true (p := PySem.W.nsIn K mainGlobals "InvalidText" = some (some (.ref (ga K "InvalidText")))) (c.fact 120 (f := q120) rfl))
    (exeB_ok (c.fact 121 (f := q121) rfl))
    (of_decide_eq_true (p := PySem.W.findIn K (.ref (ga K "InvalidText")) "line" = some none) (c.fact 122 (f := q122) rfl))
    (of_decide_eq_true (p := PySem.W.nsIn K mainGlobals "UnknownWord" = some (some (.ref (ga K "UnknownWord")))) (c.fact 123 (f := q123) rfl))
    (exeB_ok (c.fact 124 (f := q124) rfl))
    (of_decide_eq_true (p := PySem.W.findIn K (.ref (ga K "UnknownWord")) "value" = some none) (c.fact 125 (f := q125) rfl))
    (of_decide_eq_true (p := PySem.W.nsIn K mainGlobals "CommandFailed" = some (some (.ref (ga K "CommandFailed")))) (c.fact 126 (f := q126) rfl))
    (exeB_ok (c.fact 127 (f := q127) rfl))
    (of_decide_eq_true (p := PySem.W.findIn K (.ref (ga K "CommandFailed")) "position" = some none) (c.fact 128 (f := q128) rfl))
    (of_decide_eq_true (p := PySem.W.nsIn K mainGlobals "NotBalanced" = some (some (.ref (ga K "NotBalanced")))) (c.fact 129 (f := q129) rfl))
    (exeB_ok (c.fact 130 (f := q130) rfl))
    (of_decide_eq_true (p := PySem.W.findIn K (.ref (ga K "NotBalanced")) "columns" = some none) (c.fact 131 (f := q131) rfl))
    (of_decide_eq_true (p := PySem.W.findIn K (.ref (ga K "NotBalanced")) "rows" = some none) (c.fact 132 (f := q132) rfl))
    (of_decide_eq_true (p := PySem.W.nsIn K mainGlobals "OtherPlan" = some (some (.ref (ga K "OtherPlan")))) (c.fact 133 (f := q133) rfl))
    (exeB_ok (c.fact 134 (f := q134) rfl))
    (of_decide_eq_true (p := PySem.W.findIn K (.ref (ga K "OtherPlan")) "one" = some none) (c.fact 135 (f := q135) rfl))
    (of_decide_eq_true (p := PySem.W.findIn K (.ref (ga K "OtherPlan")) "other" = some none) (c.fact 136 (f := q136) rfl))
    (of_decide_eq_true (p := PySem.W.nsIn K mainGlobals "OtherMap" = some (some (.ref (ga K "OtherMap")))) (c.fact 137 (f := q137) rfl))
    (exeB_ok (c.fact 138 (f := q138) rfl))
    (of_decide_eq_true (p := PySem.W.findIn K (.ref (ga K "OtherMap")) "one" = some none) (c.fact 139 (f := q139) rfl))
    (of_decide_eq_true (p := PySem.W.findIn K (.ref (ga K "OtherMap")) "other" = some none) (c.fact 140 (f := q140) rfl))
    (of_decide_eq_true (p := PySem.W.nsIn K mainGlobals "NoNeighbour" = some (some (.ref (ga K "NoNeighbour")))) (c.fact 141 (f := q141) rfl))
    (exeB_ok (c.fact 142 (f := q142) rfl))
    (of_decide_eq_true (p := PySem.W.findIn K (.ref (ga K "NoNeighbour")) "value" = some none) (c.fact 143 (f := q143) rfl))
    (of_decide_eq_true (p := PySem.W.findIn K (.ref (ga K "NoNeighbour")) "move" = some none) (c.fact 144 (f := q144) rfl))
    (of_decide_eq_true (p := PySem.W.nsIn K mainGlobals "TooMany" = some (some (.ref (ga K "TooMany")))) (c.fact 145 (f := q145) rfl))
    (exeB_ok (c.fact 146 (f := q146) rfl))
    (of_decide_eq_true (p := PySem.W.findIn K (.ref (ga K "TooMany")) "what" = some none) (c.fact 147 (f := q147) rfl))
    (of_decide_eq_true (p := PySem.W.findIn K (.ref (ga K "TooMany")) "limit" = some none) (c.fact 148 (f := q148) rfl))
    (of_decide_eq_true (p := PySem.W.nsIn K mainGlobals "DividedByZero" = some (some (.ref (ga K "DividedByZero")))) (c.fact 149 (f := q149) rfl))
    (exeB_ok (c.fact 150 (f := q150) rfl))
    (c.fact 151 (f := q151) rfl)
    (of_decide_eq_true (p := PySem.W.nsIn K mainGlobals "NothingToUndo" = some (some (.ref (ga K "NothingToUndo")))) (c.fact 152 (f := q152) rfl))
    (exeB_ok (c.fact 153 (f := q153) rfl))
    (c.fact 154 (f := q154) rfl)
    (of_decide_eq_true (p := PySem.W.nsIn K mainGlobals "ValueError" = some none) (c.fact 155 (f := q155) rfl))
    (of_decide_eq_true (p := PySem.W.nsIn K mainGlobals "RuntimeError" = some none) (c.fact 156 (f := q156) rfl))
    (of_decide_eq_true (p := PySem.W.nsIn K mainGlobals "LookupError" = some none) (c.fact 157 (f := q157) rfl))
    (of_decide_eq_true (p := PySem.W.nsIn K mainGlobals "ArithmeticError" = some none) (c.fact 158 (f := q158) rfl))
    (of_decide_eq_true (p := PySem.W.nsIn K mainGlobals "IndexError" = some none) (c.fact 159 (f := q159) rfl))
    (of_decide_eq_true (p := PySem.W.nsIn K mainGlobals "KeyError" = some none) (c.fact 160 (f := q160) rfl))
    (of_decide_eq_true (p := PySem.W.nsIn K mainGlobals "TypeError" = some none) (c.fact 161 (f := q161) rfl))
    (of_decide_eq_true (p := PySem.W.nsIn K mainGlobals "ZeroDivisionError" = some none) (c.fact 162 (f := q162) rfl))
    (of_decide_eq_true (p := PySem.W.nsIn K mainGlobals "CellError" = some (some (.ref (ga K "CellError")))) (c.fact 163 (f := q163) rfl))
    (exeB_ok (c.fact 164 (f := q164) rfl))
    (c.fact 165 (f := q165) rfl)
    (of_decide_eq_true (p := PySem.W.nsIn K mainGlobals "MissingError" = some (some (.ref (ga K "MissingError")))) (c.fact 166 (f := q166) rfl))
    (exeB_ok (c.fact 167 (f := q167) rfl))
    (c.fact 168 (f := q168) rfl)
    (of_decide_eq_true (p := PySem.W.nsIn K mainGlobals "StateError" = some (some (.ref (ga K "StateError")))) (c.fact 169 (f := q169) rfl))
    (exeB_ok (c.fact 170 (f := q170) rfl))
    (c.fact 171 (f := q171) rfl)
    (of_decide_eq_true (p := PySem.W.nsIn K mainGlobals "LimitError" = some (some (.ref (ga K "LimitError")))) (c.fact 172 (f := q172) rfl))
    (exeB_ok (c.fact 173 (f := q173) rfl))
    (c.fact 174 (f := q174) rfl)
    (ertB_ok (c.fact 175 (f := q175) rfl))
    (of_decide_eq_true (p := PySem.W.nsIn K mainGlobals "law" = some (some (.ref (ga K "law")))) (c.fact 176 (f := q176) rfl))
    F_law
    (of_decide_eq_true (p := PySem.W.nsIn K mainGlobals "_law_pot" = some (some (.ref (ga K "_law_pot")))) (c.fact 177 (f := q177) rfl))
    F_pot
    (of_decide_eq_true (p := PySem.W.nsIn K mainGlobals "_law_right" = some (some (.ref (ga K "_law_right")))) (c.fact 178 (f := q178) rfl))
    F_right
    (of_decide_eq_true (p := PySem.W.nsIn K mainGlobals "_law_pick" = some (some (.ref (ga K "_law_pick")))) (c.fact 179 (f := q179) rfl))
    F_pick
    (of_decide_eq_true (p := PySem.W.nsIn K mainGlobals "_law_draw" = some (some (.ref (ga K "_law_draw")))) (c.fact 180 (f := q180) rfl))
    F_draw
    (of_decide_eq_true (p := PySem.W.nsIn K mainGlobals "_law_all" = some (some (.ref (ga K "_law_all")))) (c.fact 181 (f := q181) rfl))
    F_all
    (of_decide_eq_true (p := PySem.W.findIn K (.ref (ga K "InvalidNumber")) "__init__" = some (some (.ref (ma K (ga K "InvalidNumber") "__init__")))) (c.fact 182 (f := q182) rfl))
    (of_decide_eq_true (p := PySem.W.typeIn K (.ref (ma K (ga K "InvalidNumber") "__init__")) = some (.type "function")) (c.fact 183 (f := q183) rfl))
    F_eInvalidNumber
    (of_decide_eq_true (p := PySem.W.findIn K (.ref (ga K "InvalidPhase")) "__init__" = some (some (.ref (ma K (ga K "InvalidPhase") "__init__")))) (c.fact 184 (f := q184) rfl))
    (of_decide_eq_true (p := PySem.W.typeIn K (.ref (ma K (ga K "InvalidPhase") "__init__")) = some (.type "function")) (c.fact 185 (f := q185) rfl))
    F_eInvalidPhase
    (of_decide_eq_true (p := PySem.W.findIn K (.ref (ga K "InvalidSign")) "__init__" = some (some (.ref (ma K (ga K "InvalidSign") "__init__")))) (c.fact 186 (f := q186) rfl))
    (of_decide_eq_true (p := PySem.W.typeIn K (.ref (ma K (ga K "InvalidSign") "__init__")) = some (.type "function")) (c.fact 187 (f := q187) rfl))
    F_eInvalidSign
    (of_decide_eq_true (p := PySem.W.findIn K (.ref (ga K "InvalidPair")) "__init__" = some (some (.ref (ma K (ga K "InvalidPair") "__init__")))) (c.fact 188 (f := q188) rfl))
    (of_decide_eq_true (p := PySem.W.typeIn K (.ref (ma K (ga K "InvalidPair") "__init__")) = some (.type "function")) (c.fact 189 (f := q189) rfl))
    F_eInvalidPair
    (of_decide_eq_true (p := PySem.W.findIn K (.ref (ga K "InvalidLength")) "__init__" = some (some (.ref (ma K (ga K "InvalidLength") "__init__")))) (c.fact 190 (f := q190) rfl))
    (of_decide_eq_true (p := PySem.W.typeIn K (.ref (ma K (ga K "InvalidLength") "__init__")) = some (.type "function")) (c.fact 191 (f := q191) rfl))
    F_eInvalidLength
    (of_decide_eq_true (p := PySem.W.findIn K (.ref (ga K "InvalidClosed")) "__init__" = some (some (.ref (ma K (ga K "InvalidClosed") "__init__")))) (c.fact 192 (f := q192) rfl))
    (of_decide_eq_true (p := PySem.W.typeIn K (.ref (ma K (ga K "InvalidClosed") "__init__")) = some (.type "function")) (c.fact 193 (f := q193) rfl))
    F_eInvalidClosed
    (of_decide_eq_true (p := PySem.W.findIn K (.ref (ga K "InvalidAxis")) "__init__" = some (some (.ref (ma K (ga K "InvalidAxis") "__init__")))) (c.fact 194 (f := q194) rfl))
    (of_decide_eq_true (p := PySem.W.typeIn K (.ref (ma K (ga K "InvalidAxis") "__init__")) = some (.type "function")) (c.fact 195 (f := q195) rfl))
    F_eInvalidAxis
    (of_decide_eq_true (p := PySem.W.findIn K (.ref (ga K "InvalidName")) "__init__" = some (some (.ref (ma K (ga K "InvalidName") "__init__")))) (c.fact 196 (f := q196) rfl))
    (of_decide_eq_true (p := PySem.W.typeIn K (.ref (ma K (ga K "InvalidName") "__init__")) = some (.type "function")) (c.fact 197 (f := q197) rfl))
    F_eInvalidName
    (of_decide_eq_true (p := PySem.W.findIn K (.ref (ga K "InvalidPlace")) "__init__" = some (some (.ref (ma K (ga K "InvalidPlace") "__init__")))) (c.fact 198 (f := q198) rfl))
    (of_decide_eq_true (p := PySem.W.typeIn K (.ref (ma K (ga K "InvalidPlace") "__init__")) = some (.type "function")) (c.fact 199 (f := q199) rfl))
    F_eInvalidPlace
    (of_decide_eq_true (p := PySem.W.findIn K (.ref (ga K "InvalidKind")) "__init__" = some (some (.ref (ma K (ga K "InvalidKind") "__init__")))) (c.fact 200 (f := q200) rfl))
    (of_decide_eq_true (p := PySem.W.typeIn K (.ref (ma K (ga K "InvalidKind") "__init__")) = some (.type "function")) (c.fact 201 (f := q201) rfl))
    F_eInvalidKind
    (of_decide_eq_true (p := PySem.W.findIn K (.ref (ga K "InvalidDirection")) "__init__" = some (some (.ref (ma K (ga K "InvalidDirection") "__init__")))) (c.fact 202 (f := q202) rfl))
    (of_decide_eq_true (p := PySem.W.typeIn K (.ref (ma K (ga K "InvalidDirection") "__init__")) = some (.type "function")) (c.fact 203 (f := q203) rfl))
    F_eInvalidDirection
    (of_decide_eq_true (p := PySem.W.findIn K (.ref (ga K "InvalidMove")) "__init__" = some (some (.ref (ma K (ga K "InvalidMove") "__init__")))) (c.fact 204 (f := q204) rfl))
    (of_decide_eq_true (p := PySem.W.typeIn K (.ref (ma K (ga K "InvalidMove") "__init__")) = some (.type "function")) (c.fact 205 (f := q205) rfl))
    F_eInvalidMove
    (of_decide_eq_true (p := PySem.W.findIn K (.ref (ga K "InvalidEdges")) "__init__" = some (some (.ref (ma K (ga K "InvalidEdges") "__init__")))) (c.fact 206 (f := q206) rfl))
    (of_decide_eq_true (p := PySem.W.typeIn K (.ref (ma K (ga K "InvalidEdges") "__init__")) = some (.type "function")) (c.fact 207 (f := q207) rfl))
    F_eInvalidEdges
    (of_decide_eq_true (p := PySem.W.findIn K (.ref (ga K "InvalidBegins")) "__init__" = some (some (.ref (ma K (ga K "InvalidBegins") "__init__")))) (c.fact 208 (f := q208) rfl))
    (of_decide_eq_true (p := PySem.W.typeIn K (.ref (ma K (ga K "InvalidBegins") "__init__")) = some (.type "function")) (c.fact 209 (f := q209) rfl))
    F_eInvalidBegins
    (of_decide_eq_true (p := PySem.W.findIn K (.ref (ga K "InvalidEntry")) "__init__" = some (some (.ref (ma K (ga K "InvalidEntry") "__init__")))) (c.fact 210 (f := q210) rfl))
    (of_decide_eq_true (p := PySem.W.typeIn K (.ref (ma K (ga K "InvalidEntry") "__init__")) = some (.type "function")) (c.fact 211 (f := q211) rfl))
    F_eInvalidEntry
    (of_decide_eq_true (p := PySem.W.findIn K (.ref (ga K "InvalidReach")) "__init__" = some (some (.ref (ma K (ga K "InvalidReach") "__init__")))) (c.fact 212 (f := q212) rfl))
    (of_decide_eq_true (p := PySem.W.typeIn K (.ref (ma K (ga K "InvalidReach") "__init__")) = some (.type "function")) (c.fact 213 (f := q213) rfl))
    F_eInvalidReach
    (of_decide_eq_true (p := PySem.W.findIn K (.ref (ga K "InvalidDistance")) "__init__" = some (some (.ref (ma K (ga K "InvalidDistance") "__init__")))) (c.fact 214 (f := q214) rfl))
    (of_decide_eq_true (p := PySem.W.typeIn K (.ref (ma K (ga K "InvalidDistance") "__init__")) = some (.type "function")) (c.fact 215 (f := q215) rfl))
    F_eInvalidDistance
    (of_decide_eq_true (p := PySem.W.findIn K (.ref (ga K "InvalidLooks")) "__init__" = some (some (.ref (ma K (ga K "InvalidLooks") "__init__")))) (c.fact 216 (f := q216) rfl))
    (of_decide_eq_true (p := PySem.W.typeIn K (.ref (ma K (ga K "InvalidLooks") "__init__")) = some (.type "function")) (c.fact 217 (f := q217) rfl))
    F_eInvalidLooks
    (of_decide_eq_true (p := PySem.W.findIn K (.ref (ga K "InvalidPlaces")) "__init__" = some (some (.ref (ma K (ga K "InvalidPlaces") "__init__")))) (c.fact 218 (f := q218) rfl))
    (of_decide_eq_true (p := PySem.W.typeIn K (.ref (ma K (ga K "InvalidPlaces") "__init__")) = some (.type "function")) (c.fact 219 (f := q219) rfl))
    F_eInvalidPlaces
    (of_decide_eq_true (p := PySem.W.findIn K (.ref (ga K "InvalidWord")) "__init__" = some (some (.ref (ma K (ga K "InvalidWord") "__init__")))) (c.fact 220 (f := q220) rfl))
    (of_decide_eq_true (p := PySem.W.typeIn K (.ref (ma K (ga K "InvalidWord") "__init__")) = some (.type "function")) (c.fact 221 (f := q221) rfl))
    F_eInvalidWord
    (of_decide_eq_true (p := PySem.W.findIn K (.ref (ga K "InvalidTarget")) "__init__" = some (some (.ref (ma K (ga K "InvalidTarget") "__init__")))) (c.fact 222 (f := q222) rfl))
    (of_decide_eq_true (p := PySem.W.typeIn K (.ref (ma K (ga K "InvalidTarget") "__init__")) = some (.type "function")) (c.fact 223 (f := q223) rfl))
    F_eInvalidTarget
    (of_decide_eq_true (p := PySem.W.findIn K (.ref (ga K "InvalidState")) "__init__" = some (some (.ref (ma K (ga K "InvalidState") "__init__")))) (c.fact 224 (f := q224) rfl))
    (of_decide_eq_true (p := PySem.W.typeIn K (.ref (ma K (ga K "InvalidState") "__init__")) = some (.type "function")) (c.fact 225 (f := q225) rfl))
    F_eInvalidState
    (of_decide_eq_true (p := PySem.W.findIn K (.ref (ga K "InvalidRule")) "__init__" = some (some (.ref (ma K (ga K "InvalidRule") "__init__")))) (c.fact 226 (f := q226) rfl))
    (of_decide_eq_true (p := PySem.W.typeIn K (.ref (ma K (ga K "InvalidRule") "__init__")) = some (.type "function")) (c.fact 227 (f := q227) rfl))
    F_eInvalidRule
    (of_decide_eq_true (p := PySem.W.findIn K (.ref (ga K "InvalidTable")) "__init__" = some (some (.ref (ma K (ga K "InvalidTable") "__init__")))) (c.fact 228 (f := q228) rfl))
    (of_decide_eq_true (p := PySem.W.typeIn K (.ref (ma K (ga K "InvalidTable") "__init__")) = some (.type "function")) (c.fact 229 (f := q229) rfl))
    F_eInvalidTable
    (of_decide_eq_true (p := PySem.W.findIn K (.ref (ga K "InvalidMap")) "__init__" = some (some (.ref (ma K (ga K "InvalidMap") "__init__")))) (c.fact 230 (f := q230) rfl))
    (of_decide_eq_true (p := PySem.W.typeIn K (.ref (ma K (ga K "InvalidMap") "__init__")) = some (.type "function")) (c.fact 231 (f := q231) rfl))
    F_eInvalidMap
    (of_decide_eq_true (p := PySem.W.findIn K (.ref (ga K "InvalidPlan")) "__init__" = some (some (.ref (ma K (ga K "InvalidPlan") "__init__")))) (c.fact 232 (f := q232) rfl))
    (of_decide_eq_true (p := PySem.W.typeIn K (.ref (ma K (ga K "InvalidPlan") "__init__")) = some (.type "function")) (c.fact 233 (f := q233) rfl))
    F_eInvalidPlan
    (of_decide_eq_true (p := PySem.W.findIn K (.ref (ga K "InvalidGauge")) "__init__" = some (some (.ref (ma K (ga K "InvalidGauge") "__init__")))) (c.fact 234 (f := q234) rfl))
    (of_decide_eq_true (p := PySem.W.typeIn K (.ref (ma K (ga K "InvalidGauge") "__init__")) = some (.type "function")) (c.fact 235 (f := q235) rfl))
    F_eInvalidGauge
    (of_decide_eq_true (p := PySem.W.findIn K (.ref (ga K "InvalidClaim")) "__init__" = some (some (.ref (ma K (ga K "InvalidClaim") "__init__")))) (c.fact 236 (f := q236) rfl))
    (of_decide_eq_true (p := PySem.W.typeIn K (.ref (ma K (ga K "InvalidClaim") "__init__")) = some (.type "function")) (c.fact 237 (f := q237) rfl))
    F_eInvalidClaim
    (of_decide_eq_true (p := PySem.W.findIn K (.ref (ga K "InvalidCommand")) "__init__" = some (some (.ref (ma K (ga K "InvalidCommand") "__init__")))) (c.fact 238 (f := q238) rfl))
    (of_decide_eq_true (p := PySem.W.typeIn K (.ref (ma K (ga K "InvalidCommand") "__init__")) = some (.type "function")) (c.fact 239 (f := q239) rfl))
    F_eInvalidCommand
    (of_decide_eq_true (p := PySem.W.findIn K (.ref (ga K "InvalidRounds")) "__init__" = some (some (.ref (ma K (ga K "InvalidRounds") "__init__")))) (c.fact 240 (f := q240) rfl))
    (of_decide_eq_true (p := PySem.W.typeIn K (.ref (ma K (ga K "InvalidRounds") "__init__")) = some (.type "function")) (c.fact 241 (f := q241) rfl))
    F_eInvalidRounds
    (of_decide_eq_true (p := PySem.W.findIn K (.ref (ga K "InvalidStates")) "__init__" = some (some (.ref (ma K (ga K "InvalidStates") "__init__")))) (c.fact 242 (f := q242) rfl))
    (of_decide_eq_true (p := PySem.W.typeIn K (.ref (ma K (ga K "InvalidStates") "__init__")) = some (.type "function")) (c.fact 243 (f := q243) rfl))
    F_eInvalidStates
    (of_decide_eq_true (p := PySem.W.findIn K (.ref (ga K "InvalidMoves")) "__init__" = some (some (.ref (ma K (ga K "InvalidMoves") "__init__")))) (c.fact 244 (f := q244) rfl))
    (of_decide_eq_true (p := PySem.W.typeIn K (.ref (ma K (ga K "InvalidMoves") "__init__")) = some (.type "function")) (c.fact 245 (f := q245) rfl))
    F_eInvalidMoves
    (of_decide_eq_true (p := PySem.W.findIn K (.ref (ga K "InvalidText")) "__init__" = some (some (.ref (ma K (ga K "InvalidText") "__init__")))) (c.fact 246 (f := q246) rfl))
    (of_decide_eq_true (p := PySem.W.typeIn K (.ref (ma K (ga K "InvalidText") "__init__")) = some (.type "function")) (c.fact 247 (f := q247) rfl))
    F_eInvalidText
    (of_decide_eq_true (p := PySem.W.findIn K (.ref (ga K "UnknownWord")) "__init__" = some (some (.ref (ma K (ga K "UnknownWord") "__init__")))) (c.fact 248 (f := q248) rfl))
    (of_decide_eq_true (p := PySem.W.typeIn K (.ref (ma K (ga K "UnknownWord") "__init__")) = some (.type "function")) (c.fact 249 (f := q249) rfl))
    F_eUnknownWord
    (of_decide_eq_true (p := PySem.W.findIn K (.ref (ga K "CommandFailed")) "__init__" = some (some (.ref (ma K (ga K "CommandFailed") "__init__")))) (c.fact 250 (f := q250) rfl))
    (of_decide_eq_true (p := PySem.W.typeIn K (.ref (ma K (ga K "CommandFailed") "__init__")) = some (.type "function")) (c.fact 251 (f := q251) rfl))
    F_eCommandFailed
    (of_decide_eq_true (p := PySem.W.findIn K (.ref (ga K "NotBalanced")) "__init__" = some (some (.ref (ma K (ga K "NotBalanced") "__init__")))) (c.fact 252 (f := q252) rfl))
    (of_decide_eq_true (p := PySem.W.typeIn K (.ref (ma K (ga K "NotBalanced") "__init__")) = some (.type "function")) (c.fact 253 (f := q253) rfl))
    F_eNotBalanced
    (of_decide_eq_true (p := PySem.W.findIn K (.ref (ga K "OtherPlan")) "__init__" = some (some (.ref (ma K (ga K "OtherPlan") "__init__")))) (c.fact 254 (f := q254) rfl))
    (of_decide_eq_true (p := PySem.W.typeIn K (.ref (ma K (ga K "OtherPlan") "__init__")) = some (.type "function")) (c.fact 255 (f := q255) rfl))
    F_eOtherPlan
    (of_decide_eq_true (p := PySem.W.findIn K (.ref (ga K "OtherMap")) "__init__" = some (some (.ref (ma K (ga K "OtherMap") "__init__")))) (c.fact 256 (f := q256) rfl))
    (of_decide_eq_true (p := PySem.W.typeIn K (.ref (ma K (ga K "OtherMap") "__init__")) = some (.type "function")) (c.fact 257 (f := q257) rfl))
    F_eOtherMap
    (of_decide_eq_true (p := PySem.W.findIn K (.ref (ga K "NoNeighbour")) "__init__" = some (some (.ref (ma K (ga K "NoNeighbour") "__init__")))) (c.fact 258 (f := q258) rfl))
    (of_decide_eq_true (p := PySem.W.typeIn K (.ref (ma K (ga K "NoNeighbour") "__init__")) = some (.type "function")) (c.fact 259 (f := q259) rfl))
    F_eNoNeighbour
    (of_decide_eq_true (p := PySem.W.findIn K (.ref (ga K "TooMany")) "__init__" = some (some (.ref (ma K (ga K "TooMany") "__init__")))) (c.fact 260 (f := q260) rfl))
    (of_decide_eq_true (p := PySem.W.typeIn K (.ref (ma K (ga K "TooMany") "__init__")) = some (.type "function")) (c.fact 261 (f := q261) rfl))
    F_eTooMany
    (of_decide_eq_true (p := PySem.W.nsIn K mainGlobals "_law_named" = some (some (.ref (ga K "_law_named")))) (c.fact 262 (f := q262) rfl))
    F_named
    (of_decide_eq_true (p := PySem.W.nsIn K mainGlobals "_law_kept" = some (some (.ref (ga K "_law_kept")))) (c.fact 263 (f := q263) rfl))
    F_kept
    (of_decide_eq_true (p := PySem.W.nsIn K mainGlobals "_law_flags" = some (some (.ref (ga K "_law_flags")))) (c.fact 264 (f := q264) rfl))
    F_flags
    (of_decide_eq_true (p := PySem.W.nsIn K mainGlobals "_law_grounds" = some (some (.ref (ga K "_law_grounds")))) (c.fact 265 (f := q265) rfl))
    F_grounds
    (of_decide_eq_true (p := PySem.W.nsIn K mainGlobals "_law_ground" = some (some (.ref (ga K "_law_ground")))) (c.fact 266 (f := q266) rfl))
    F_ground
    (of_decide_eq_true (p := PySem.W.nsIn K mainGlobals "_law_width" = some (some (.ref (ga K "_law_width")))) (c.fact 267 (f := q267) rfl))
    F_width
    (of_decide_eq_true (p := PySem.W.nsIn K mainGlobals "_law_due_grounds" = some (some (.ref (ga K "_law_due_grounds")))) (c.fact 268 (f := q268) rfl))
    F_dueg
end T
set_option Elab.async false
open PySem PySem.W PySem.Calls PyProof.Rows
set_option maxRecDepth 100000 in
set_option maxHeartbeats 0 in
theorem PySem.Challenge.cw_movecells_k18_errors_made_holds : PySem.Challenge.rw_movecells_k18_errors_made.Holds := by
  refine T0.early ?_
  refine Mv.walk_gM (x := "_law_script") (l := PySem.Challenge.rw_movecells_k18_errors_made) (n := 63) (k := 9) (sp := T.sp_law) rfl (by decide) T0.t_dfl ⟨rfl, by decide, by decide⟩ (fun w mg fa h Y G hm => ?_) fun _ _ a ns hl hS => ⟨a, ns, rfl, hS, hl, fun _ => rfl⟩
  obtain ⟨K, KX, c⟩ := Y
  obtain ⟨fd, hb, hF⟩ := T.facts (P := (PySem.Challenge.rw_movecells_k18_errors_made).prog) (w := w) KX G (T0.t_name ▸ hm) c
  exact ⟨K, fd, KX, hb, hF⟩
